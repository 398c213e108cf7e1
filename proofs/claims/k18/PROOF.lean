import PyProof.Rows.All
import Wide.All
import OpenK.AllK
import Wide.FinOn
import HandS.ForMost
import HandS.Star
import HandS.Deep
import HandS.Zip
import HandS.TupAny
import HandS.TupMul
import HandS.Conv
import HandS.Wide
import HandS.IsInst
import HandS.ClsMeth
import HandS.Property
import HandS.SlotsOwn
import HandS.Text
import HandS.Style
import PyProof.SeqIndex
import HandS.Steps
import HandS.Strs
import KE.KOwnIter
import PyProof.WalksMore
import HandS.IterVal
import KE.GoesZip
import KE.GoesMore
import KE.KDictZip
import HandS.TupLe
import KE.KDictKeyed
import KE.KTupSum
import HandS.TryOnly
import HandS.ListEq
import PySem.Challenge.RW_rowsgone_k18_tables_put_together
set_option Elab.async false
set_option linter.all false
set_option maxRecDepth 100000
namespace RG
open PySem PySem.Spec PyProof.Rows L2

/-! ### the world of a law: the written part, the bag's address, the classes -/
structure Wd where
  K : PySem.W.Frag
  C : Str → Addr
  b : Addr
  bl : Addr
  ns : List Int

/-- the bag of a law stands at b, its list at bl -/
def BagAt (W : Wd) (H : Hp) : Prop := ∃ (i m s c : Int), H W.b = some (.lst [.ref W.bl, .int i, .int m, .int s, .int c]) ∧ W.bl ≠ W.b ∧ H W.bl = some (.lst (W.ns.map V.int)) ∧ 0 ≤ i ∧ 0 ≤ m

/-- nothing is changed but the bag and the objects of M -/
structure Ex (W : Wd) (M : List Addr) (H H' : Hp) : Prop where
  keep : ∀ a o, a ≠ W.b → a ∉ M → H a = some o → H' a = some o
  some_ : ∀ a, H a ≠ none → H' a ≠ none
  bag : BagAt W H → BagAt W H'

section
variable {W : Wd} {M N : List Addr} {H H1 H2 H' : Hp}
theorem Ex.refl : Ex W M H H := ⟨fun _ _ _ _ e => e, fun _ e => e, id⟩
theorem Ex.trans (a : Ex W M H H1) (b : Ex W M H1 H2) : Ex W M H H2 :=
  ⟨fun x o n m e => b.keep x o n m (a.keep x o n m e), fun x e => b.some_ x (a.some_ x e), fun z => b.bag (a.bag z)⟩
theorem Ex.up (a : Ex W [] H H1) : Ex W M H H1 := ⟨fun x o n _ e => a.keep x o n (by simp) e, a.some_, a.bag⟩
theorem Ex.sub (a : Ex W M H H1) (h : ∀ x ∈ M, x ∈ N) : Ex W N H H1 := ⟨fun x o n m e => a.keep x o n (fun q => m (h x q)) e, a.some_, a.bag⟩
end

/-- M is laid, and so is the bag -/
structure Ok (W : Wd) (M : List Addr) (H : Hp) : Prop where
  bag : BagAt W H
  laid : ∀ a ∈ M, H a ≠ none
section
variable {W : Wd} {M N : List Addr} {H H1 H2 H' : Hp} {p a : Addr} {o : HO}
theorem Ok.b (h : Ok W M H) : H W.b ≠ none := by
  obtain ⟨_, _, _, _, e, _⟩ := h.bag
  rw [e]; exact fun z => nomatch z
theorem Ok.ex (h : Ok W M H) (e : Ex W N H H') : Ok W M H' := ⟨e.bag h.bag, fun a m => e.some_ a (h.laid a m)⟩
theorem Ok.new_b (h : Ok W M H) (hp : H p = none) : p ≠ W.b := fun e => h.b (e ▸ hp)
theorem Ok.new_M (h : Ok W M H) (hp : H p = none) : p ∉ M := fun e => h.laid p e hp
theorem Ok.bl (h : Ok W M H) : H W.bl ≠ none := by
  obtain ⟨_, _, _, _, _, _, e, _⟩ := h.bag
  rw [e]; exact fun z => nomatch z
theorem Ok.new_bl (h : Ok W M H) (hp : H p = none) : p ≠ W.bl := fun e => h.bl (e ▸ hp)
/-- an object beside the bag is changed -/
theorem bag_upd (h : BagAt W H) (h1 : p ≠ W.b) (h2 : p ≠ W.bl) : BagAt W (upd H p o) := by
  obtain ⟨i, m, s, c, e, nl, el, z⟩ := h
  refine ⟨i, m, s, c, ?_, nl, ?_, z⟩
  · rw [upd_ne h1.symm]; exact e
  · rw [upd_ne h2.symm]; exact el
theorem bag_new (h : BagAt W H) (hp : H p = none) : BagAt W (upd H p o) := by
  obtain ⟨i, m, s, c, e, nl, el, z⟩ := id h
  exact bag_upd h (fun q => by rw [q, e] at hp; cases hp) (fun q => by rw [q, el] at hp; cases hp)
/-- a new object -/
theorem Ex.new (hp : H p = none) : Ex W M H (upd H p o) := by
  refine ⟨fun a u n _ e => ?_, fun a e => ?_, fun z => bag_new z hp⟩
  · rw [upd_ne (ne_of_none e hp)]; exact e
  · by_cases h : a = p
    · rw [h, upd_same]; exact fun z => nomatch z
    · rw [upd_ne h]; exact e
/-- a new object joins M -/
theorem Ok.grow (h : Ok W M H) (hp : H p = none) : Ok W (p :: M) (upd H p o) := by
  refine ⟨bag_new h.bag hp, fun a ha => ?_⟩
  by_cases q : a = p
  · rw [q, upd_same]; exact fun z => nomatch z
  · rw [upd_ne q]; exact h.laid a ((List.mem_cons.mp ha).resolve_left q)
theorem Ok.less (h : Ok W (p :: M) H) : Ok W M H := ⟨h.bag, fun a ha => h.laid a (List.mem_cons_of_mem _ ha)⟩
/-- an object of M is changed, which is neither the bag nor its list -/
theorem Ex.mut (h1 : p ≠ W.b) (h2 : p ≠ W.bl) (hm : p ∈ M) : Ex W M H (upd H p o) := by
  refine ⟨fun a u n m e => ?_, fun a e => ?_, fun z => bag_upd z h1 h2⟩
  · rw [upd_ne (fun z : a = p => m (by rw [z]; exact hm))]; exact e
  · by_cases h : a = p
    · rw [h, upd_same]; exact fun z => nomatch z
    · rw [upd_ne h]; exact e
/-- an object that was not there at the beginning is changed -/
theorem Ex.mut0 (e : Ex W M H H1) (ok : Ok W N H) (hp : H p = none) : Ex W M H (upd H1 p o) := by
  have h1 : p ≠ W.b := fun z => ok.b (z ▸ hp)
  have h2 : p ≠ W.bl := fun z => ok.bl (z ▸ hp)
  refine ⟨fun a u n m x => ?_, fun a x => ?_, fun z => bag_upd (e.bag z) h1 h2⟩
  · rw [upd_ne (ne_of_none x hp)]; exact e.keep a u n m x
  · by_cases h : a = p
    · rw [h, upd_same]; exact fun z => nomatch z
    · rw [upd_ne h]; exact e.some_ a x
theorem Ex.free (e : Ex W M H H1) (h : H1 p = none) : H p = none := by
  cases q : H p with
  | none => rfl
  | some o => exact absurd h (e.some_ p (by rw [q]; exact fun z => nomatch z))
end

/-! ### what a heap holds, beside the bag and M -/
def cut (W : Wd) (M : List Addr) (H : Hp) : Hp := fun a => if a = W.b ∨ a ∈ M then none else H a
structure Le (H H' : Hp) : Prop where
  ex : ∀ a o, H a = some o → H' a = some o
theorem Le.refl {H : Hp} : Le H H := ⟨fun _ _ e => e⟩
theorem Le.trans {H H1 H2 : Hp} (a : Le H H1) (b : Le H1 H2) : Le H H2 := ⟨fun x o e => b.ex x o (a.ex x o e)⟩
section
variable {W : Wd} {M N : List Addr} {H H1 H2 H' : Hp} {p a : Addr} {o : HO}
theorem cut_some : cut W M H a = some o ↔ a ≠ W.b ∧ a ∉ M ∧ H a = some o := by
  unfold cut
  by_cases h : a = W.b ∨ a ∈ M
  · rw [if_pos h]
    exact ⟨(fun e => nomatch e), fun ⟨h1, h2, _⟩ => (h.elim h1 h2).elim⟩
  · rw [if_neg h]
    exact ⟨fun e => ⟨fun z => h (.inl z), fun z => h (.inr z), e⟩, fun e => e.2.2⟩
theorem cut_at (e : cut W M H a = some o) : H a = some o := (cut_some.mp e).2.2
theorem Ex.le (e : Ex W M H H') : Le (cut W M H) (cut W M H') := ⟨fun a o q => by
  obtain ⟨h1, h2, h3⟩ := cut_some.mp q
  exact cut_some.mpr ⟨h1, h2, e.keep a o h1 h2 h3⟩⟩
/-- a new object, and M grown by it -/
theorem le_new (hp : H p = none) : Le (cut W M H) (cut W (p :: M) (upd H p o)) := ⟨fun a u q => by
  obtain ⟨h1, h2, h3⟩ := cut_some.mp q
  have n := ne_of_none h3 hp
  exact cut_some.mpr ⟨h1, fun z => (List.mem_cons.mp z).elim n h2, by rw [upd_ne n]; exact h3⟩⟩
theorem le_less : Le (cut W (p :: M) H) (cut W M H) := ⟨fun a u q => by
  obtain ⟨h1, h2, h3⟩ := cut_some.mp q
  exact cut_some.mpr ⟨h1, fun z => h2 (List.mem_cons_of_mem _ z), h3⟩⟩
end

/-! ### data -/
class Py (α : Type) where
  rep : Wd → Hp → V → α → Prop
  mono : ∀ {W : Wd} {H H' : Hp} {v : V} {x : α}, Le H H' → rep W H v x → rep W H' v x
/-- a value that holds the data, beside the bag and M -/
def Rep {α : Type} [Py α] (W : Wd) (M : List Addr) (H : Hp) (v : V) (x : α) : Prop := Py.rep W (cut W M H) v x
instance : Py Int := ⟨fun _ _ v x => v = .int x, fun _ h => h⟩
instance : Py Bool := ⟨fun _ _ v x => v = .bl x, fun _ h => h⟩
instance : Py Str := ⟨fun _ _ v x => v = .str x, fun _ h => h⟩
instance : Py Unit := ⟨fun _ _ v _ => v = .non, fun _ h => h⟩
/-- a tuple of one kind of things -/
structure Tup (α : Type) where
  l : List α
  deriving DecidableEq
instance : Inhabited (Tup α) := ⟨⟨[]⟩⟩
theorem paired_mono {α β : Type} {F G : α → β → Prop} (h : ∀ a b, F a b → G a b) : ∀ {xs : List α} {ys : List β}, Paired F xs ys → Paired G xs ys
  | _, _, .nil => .nil
  | _, _, .cons r t => .cons (h _ _ r) (paired_mono h t)
instance [Py α] : Py (List α) := ⟨fun W H v xs => ∃ a vs, v = .ref a ∧ H a = some (.lst vs) ∧ Paired (Py.rep W H) vs xs,
  fun l ⟨a, vs, e, h, p⟩ => ⟨a, vs, e, l.ex _ _ h, paired_mono (fun _ _ r => Py.mono l r) p⟩⟩
/-- a tuple as it is, or one whose object is known -/
theorem Le.rd {H H' : Hp} (l : Le H H') {a : Addr} {u : HO} (h : Rd H a u) : Rd H' a u := h.elim (fun h => .inl (l.ex _ _ h)) fun ⟨o, h⟩ => .inr ⟨o, l.ex _ _ h⟩
theorem rd_cut {W : Wd} {M : List Addr} {H : Hp} {a : Addr} {u : HO} : Rd (cut W M H) a u ↔ a ≠ W.b ∧ a ∉ M ∧ Rd H a u := by
  refine ⟨fun h => ?_, fun ⟨h1, h2, h⟩ => ?_⟩
  · rcases h with h | ⟨o, h⟩
    · obtain ⟨h1, h2, h3⟩ := cut_some.mp h; exact ⟨h1, h2, .inl h3⟩
    · obtain ⟨h1, h2, h3⟩ := cut_some.mp h; exact ⟨h1, h2, .inr ⟨o, h3⟩⟩
  · rcases h with h | ⟨o, h⟩
    · exact .inl (cut_some.mpr ⟨h1, h2, h⟩)
    · exact .inr ⟨o, cut_some.mpr ⟨h1, h2, h⟩⟩
instance [Py α] : Py (Tup α) := ⟨fun W H v xs => ∃ a vs, v = .ref a ∧ Rd H a (.tup vs) ∧ Paired (Py.rep W H) vs xs.l,
  fun l ⟨a, vs, e, h, p⟩ => ⟨a, vs, e, l.rd h, paired_mono (fun _ _ r => Py.mono l r) p⟩⟩
instance [Py α] [Py β] : Py (α × β) := ⟨fun W H v x => ∃ a v1 v2, v = .ref a ∧ Rd H a (.tup [v1, v2]) ∧ Py.rep W H v1 x.1 ∧ Py.rep W H v2 x.2,
  fun l ⟨a, v1, v2, e, h, r1, r2⟩ => ⟨a, v1, v2, e, l.rd h, Py.mono l r1, Py.mono l r2⟩⟩

section
variable {α β γ : Type} [Py α] [Py β] [Py γ] {W : Wd} {M N : List Addr} {H H1 H2 H' : Hp} {p a : Addr} {o : HO} {v : V} {x : α}
theorem Rep.ex (h : Rep W M H v x) (e : Ex W M H H') : Rep W M H' v x := Py.mono e.le h
theorem Rep.up (h : Rep W M H v x) (e : Ex W [] H H') : Rep W M H' v x := h.ex e.up
theorem Rep.grow (h : Rep W M H v x) (hp : H p = none) : Rep W (p :: M) (upd H p o) v x := Py.mono (le_new hp) h
theorem Rep.less (h : Rep W (p :: M) H v x) : Rep W M H v x := Py.mono le_less h
theorem rep_int {i : Int} : Rep W M H (.int i) i := rfl
theorem rep_bl {i : Bool} : Rep W M H (.bl i) i := rfl
theorem rep_str {i : Str} : Rep W M H (.str i) i := rfl
theorem rep_lst {xs : List α} {vs : List V} (h : H a = some (.lst vs)) (hb : a ≠ W.b) (hm : a ∉ M) (p : Paired (Rep W M H) vs xs) : Rep W M H (.ref a) xs :=
  ⟨a, vs, rfl, cut_some.mpr ⟨hb, hm, h⟩, p⟩
theorem rep_tup {xs : Tup α} {vs : List V} (h : Rd H a (.tup vs)) (hb : a ≠ W.b) (hm : a ∉ M) (p : Paired (Rep W M H) vs xs.l) : Rep W M H (.ref a) xs :=
  ⟨a, vs, rfl, rd_cut.mpr ⟨hb, hm, h⟩, p⟩
theorem rep_pair {x : α × β} {v1 v2 : V} (h : Rd H a (.tup [v1, v2])) (hb : a ≠ W.b) (hm : a ∉ M) (r1 : Rep W M H v1 x.1) (r2 : Rep W M H v2 x.2) : Rep W M H (.ref a) x :=
  ⟨a, v1, v2, rfl, rd_cut.mpr ⟨hb, hm, h⟩, r1, r2⟩
theorem Rep.lst {xs : List α} (h : Rep W M H v xs) : ∃ a vs, v = .ref a ∧ H a = some (.lst vs) ∧ a ≠ W.b ∧ a ∉ M ∧ Paired (Rep W M H) vs xs := by
  obtain ⟨a, vs, e, q, p⟩ := h
  obtain ⟨h1, h2, h3⟩ := cut_some.mp q
  exact ⟨a, vs, e, h3, h1, h2, p⟩
theorem Rep.tup {xs : Tup α} (h : Rep W M H v xs) : ∃ a vs, v = .ref a ∧ Rd H a (.tup vs) ∧ a ≠ W.b ∧ a ∉ M ∧ Paired (Rep W M H) vs xs.l := by
  obtain ⟨a, vs, e, q, p⟩ := h
  obtain ⟨h1, h2, h3⟩ := rd_cut.mp q
  exact ⟨a, vs, e, h3, h1, h2, p⟩
theorem Rep.pair {x : α × β} (h : Rep W M H v x) : ∃ a v1 v2, v = .ref a ∧ Rd H a (.tup [v1, v2]) ∧ a ≠ W.b ∧ a ∉ M ∧ Rep W M H v1 x.1 ∧ Rep W M H v2 x.2 := by
  obtain ⟨a, v1, v2, e, q, r1, r2⟩ := h
  obtain ⟨h1, h2, h3⟩ := rd_cut.mp q
  exact ⟨a, v1, v2, e, h3, h1, h2, r1, r2⟩
end
end RG
namespace RG
open PySem PySem.Spec PyProof.Rows L2

/-! ### what a reading evaluates to -/
def Ev {α : Type} [Py α] (W : Wd) (M : List Addr) (te : TE) (σ : L2.St) (H : Hp) (x : α) : Prop :=
  ∀ H1, Ex W [] H H1 → Ok W M H1 → ∀ Q : VK, (∀ v H2, Ex W [] H1 H2 → Rep W M H2 v x → Q v H2) → te σ H1 Q
/-- .. one of several -/
def EvR {α : Type} [Py α] (W : Wd) (M : List Addr) (te : TE) (σ : L2.St) (H : Hp) (P : α → Prop) : Prop :=
  ∀ H1, Ex W [] H H1 → Ok W M H1 → ∀ Q : VK, (∀ v x H2, P x → Ex W [] H1 H2 → Rep W M H2 v x → Q v H2) → te σ H1 Q
/-- a test's answer -/
def Et (W : Wd) (M : List Addr) (tt : TT) (σ : L2.St) (H : Hp) (b : Bool) : Prop :=
  ∀ H1, Ex W [] H H1 → Ok W M H1 → ∀ Q : Bool → Hp → Prop, (∀ H2, Ex W [] H1 H2 → Q b H2) → tt σ H1 Q
/-- arguments of one kind -/
def Ea {α : Type} [Py α] (W : Wd) (M : List Addr) (ta : TA) (σ : L2.St) (H : Hp) (xs : List α) : Prop :=
  ∀ H1, Ex W [] H H1 → Ok W M H1 → ∀ Q : List V → Hp → Prop, (∀ vs H2, Ex W [] H1 H2 → Paired (Rep W M H2) vs xs → Q vs H2) → ta σ H1 Q
/-- a part of a slice -/
def Eo (W : Wd) (M : List Addr) (to : TO) (σ : L2.St) (H : Hp) (o : Option Int) : Prop :=
  ∀ H1, Ex W [] H H1 → Ok W M H1 → ∀ Q : Option Int → Hp → Prop, (∀ H2, Ex W [] H1 H2 → Q o H2) → to σ H1 Q
/-- slot i holds x -/
def Sl {α : Type} [Py α] (W : Wd) (M : List Addr) (σ : L2.St) (H : Hp) (i : Nat) (x : α) : Prop := ∃ v, σ[i]? = some (some v) ∧ Rep W M H v x

section
variable {α β γ : Type} [Py α] [Py β] [Py γ] {W : Wd} {M N : List Addr} {σ σ' : L2.St} {H H1 H2 H' : Hp} {p a : Addr} {o : HO} {v : V} {x : α} {y : β} {i k : Nat} {te ta tb tc : TE} {t u : TT}
theorem Sl.up (h : Sl W M σ H i x) (e : Ex W [] H H') : Sl W M σ H' i x := let ⟨v, hv, r⟩ := h; ⟨v, hv, r.up e⟩
theorem Sl.ex (h : Sl W M σ H i x) (e : Ex W M H H') : Sl W M σ H' i x := let ⟨v, hv, r⟩ := h; ⟨v, hv, r.ex e⟩
theorem Sl.set (h : Sl W M σ H i x) (e : Ex W [] H H') (n : i ≠ k := by decide) : Sl W M (σ.set k (some v)) H' i x :=
  let ⟨u, hv, r⟩ := h; ⟨u, by rw [List.getElem?_set_ne (Ne.symm n)]; exact hv, r.up e⟩
theorem Sl.setM (h : Sl W M σ H i x) (e : Ex W M H H') (n : i ≠ k := by decide) : Sl W M (σ.set k (some v)) H' i x :=
  let ⟨u, hv, r⟩ := h; ⟨u, by rw [List.getElem?_set_ne (Ne.symm n)]; exact hv, r.ex e⟩
/-- the slot that was stored -/
theorem Sl.here (r : Rep W M H v x) (h : k < σ.length) : Sl W M (σ.set k (some v)) H k x := ⟨v, by rw [List.getElem?_set_self h], r⟩
theorem Sl.grow (h : Sl W M σ H i x) (hp : H p = none) : Sl W (p :: M) σ (upd H p o) i x := let ⟨v, hv, r⟩ := h; ⟨v, hv, r.grow hp⟩
theorem Sl.less (h : Sl W (p :: M) σ H i x) : Sl W M σ H i x := let ⟨v, hv, r⟩ := h; ⟨v, hv, r.less⟩
theorem Sl.lt (h : Sl W M σ H i x) : i < σ.length := let ⟨_, hv, _⟩ := h; (List.getElem?_eq_some_iff.mp hv).1
theorem Sl.wipe (h : Sl W M σ H i x) {vs : List Nat} (n : i ∉ vs := by decide) : Sl W M (L2.wipe σ vs) H i x := by
  obtain ⟨v, hv, r⟩ := h
  refine ⟨v, ?_, r⟩
  induction vs with
  | nil => exact hv
  | cons a l ih =>
    show ((L2.wipe σ l).set a none)[i]? = some (some v)
    rw [List.getElem?_set_ne (fun z => n (by rw [z]; exact List.mem_cons_self))]
    exact ih (fun z => n (List.mem_cons_of_mem _ z))

theorem Ev.up (h : Ev W M te σ H x) (e : Ex W [] H H') : Ev W M te σ H' x := fun H1 a => h H1 (e.trans a)
theorem EvR.up {P : α → Prop} (h : EvR W M te σ H P) (e : Ex W [] H H') : EvR W M te σ H' P := fun H1 a => h H1 (e.trans a)
theorem Et.up {b : Bool} (h : Et W M t σ H b) (e : Ex W [] H H') : Et W M t σ H' b := fun H1 a => h H1 (e.trans a)
theorem Ev.r (h : Ev W M te σ H x) : EvR W M te σ H (fun y => y = x) := fun H1 e o Q q => h H1 e o Q fun v H2 e2 r => q v x H2 rfl e2 r
theorem EvR.imp {P P' : α → Prop} (h : EvR W M te σ H P) (hp : ∀ x, P x → P' x) : EvR W M te σ H P' := fun H1 e o Q q => h H1 e o Q fun v x H2 p e2 r => q v x H2 (hp x p) e2 r
theorem Ev.is {x' : α} (h : Ev W M te σ H x) (e : x = x') : Ev W M te σ H x' := e ▸ h
theorem Et.is {b c : Bool} (h : Et W M t σ H b) (e : b = c) : Et W M t σ H c := e ▸ h

/-! ### names, constants -/
theorem ev_var (h : Sl W M σ H i x) : Ev W M (tVar i) σ H x := fun H1 e _ Q q => let ⟨v, hv, r⟩ := h.up e; ⟨v, hv, q v H1 Ex.refl r⟩
theorem ev_int {n : Int} : Ev W M (tC (.int n)) σ H n := fun H1 _ _ Q q => q _ H1 Ex.refl rep_int
theorem ev_str {s : Str} : Ev W M (tC (.str s)) σ H s := fun H1 _ _ Q q => q _ H1 Ex.refl rep_str
theorem ev_bl {b : Bool} : Ev W M (tC (.bl b)) σ H b := fun H1 _ _ Q q => q _ H1 Ex.refl rep_bl
theorem ev_non : Ev W M (tC .non) σ H () := fun H1 _ _ Q q => q _ H1 Ex.refl rfl

/-! ### whole numbers -/
theorem ev_I0 {g : Int → Int → Int} {m n : Int} (ha : Ev W M ta σ H m) (hb : Ev W M tb σ H n) : Ev W M (tOp (rI0 fun i j => .int (g i j)) ta tb) σ H (g m n) := fun H1 e ok Q q =>
  ha H1 e ok _ fun v H2 e2 r => hb H2 (e.trans e2) (ok.ex e2) _ fun u H3 e3 r3 => ⟨m, n, r, r3, q _ H3 (e2.trans e3) rep_int⟩
theorem ev_B0 {g : Int → Int → Bool} {m n : Int} (ha : Ev W M ta σ H m) (hb : Ev W M tb σ H n) : Ev W M (tOp (rI0 fun i j => .bl (g i j)) ta tb) σ H (g m n) := fun H1 e ok Q q =>
  ha H1 e ok _ fun v H2 e2 r => hb H2 (e.trans e2) (ok.ex e2) _ fun u H3 e3 r3 => ⟨m, n, r, r3, q _ H3 (e2.trans e3) rep_bl⟩
theorem ev_I {C : Int → Int → Prop} {g : Int → Int → Int} {m n : Int} (ha : Ev W M ta σ H m) (hb : Ev W M tb σ H n) (hc : C m n) : Ev W M (tOp (rI C fun i j => .int (g i j)) ta tb) σ H (g m n) := fun H1 e ok Q q =>
  ha H1 e ok _ fun v H2 e2 r => hb H2 (e.trans e2) (ok.ex e2) _ fun u H3 e3 r3 => ⟨m, n, r, r3, hc, q _ H3 (e2.trans e3) rep_int⟩
theorem ev_U {g : Int → Int} {m : Int} (ha : Ev W M ta σ H m) : Ev W M (tUn (rU fun i => .int (g i)) ta) σ H (g m) := fun H1 e ok Q q =>
  ha H1 e ok _ fun v H2 e2 r => ⟨m, r, q _ H2 e2 rep_int⟩
/-- a <= b <= c of ints -/
theorem ev_chain {g g' : Int → Int → Bool} {m n l : Int} (ha : Ev W M ta σ H m) (hb : Ev W M tb σ H n) (hc : Ev W M tc σ H l) :
    Ev W M (tChain (rI0 fun i j => .bl (g i j)) (rI0 fun i j => .bl (g' i j)) ta tb tc) σ H (g m n && g' n l) := fun H1 e ok Q q =>
  ha H1 e ok _ fun v H2 e2 r => hb H2 (e.trans e2) (ok.ex e2) _ fun u H3 e3 r3 => ⟨m, n, r, r3, g m n, rfl, by
    cases hg : g m n with
    | true =>
      rw [if_pos rfl]
      refine hc H3 ((e.trans e2).trans e3) ((ok.ex e2).ex e3) _ fun w H4 e4 r4 => ?_
      exact ⟨n, l, r3, r4, q _ H4 ((e2.trans e3).trans e4) (by rw [hg, Bool.true_and]; exact rep_bl)⟩
    | false =>
      rw [if_neg Bool.false_ne_true]
      exact q _ H3 (e2.trans e3) (by rw [hg, Bool.false_and]; exact rep_bl)⟩

/-! ### truth -/
theorem ev_and {a b : Bool} (h1 : Ev W M ta σ H a) (h2 : a = true → Ev W M tb σ H b) : Ev W M (tAndV ta tb) σ H (a && b) := fun H1 e ok Q q => h1 H1 e ok _ fun v H2 e2 r => ⟨a, r, by
  cases a with
  | true => rw [if_pos rfl]; exact h2 rfl H2 (e.trans e2) (ok.ex e2) Q fun v H3 e3 r3 => q v H3 (e2.trans e3) r3
  | false => rw [if_neg Bool.false_ne_true]; exact q _ H2 e2 rep_bl⟩
theorem ev_or {a b : Bool} (h1 : Ev W M ta σ H a) (h2 : a = false → Ev W M tb σ H b) : Ev W M (tOrV ta tb) σ H (a || b) := fun H1 e ok Q q => h1 H1 e ok _ fun v H2 e2 r => ⟨a, r, by
  cases a with
  | true => rw [if_pos rfl]; exact q _ H2 e2 rep_bl
  | false => rw [if_neg Bool.false_ne_true]; exact h2 rfl H2 (e.trans e2) (ok.ex e2) Q fun v H3 e3 r3 => q v H3 (e2.trans e3) r3⟩
theorem ev_not {a : Bool} (h1 : Ev W M ta σ H a) : Ev W M (tNotV ta) σ H (!a) := fun H1 e ok Q q => h1 H1 e ok _ fun v H2 e2 r => ⟨a, r, q _ H2 e2 rep_bl⟩
theorem ev_ife {b : Bool} {x y : α} (h : Et W M t σ H b) (h1 : b = true → Ev W M ta σ H x) (h2 : b = false → Ev W M tb σ H y) : Ev W M (tIf t ta tb) σ H (if b = true then x else y) := fun H1 e ok Q q => h H1 e ok _ fun H2 e2 => by
  cases b with
  | true =>
    show ta σ H2 Q
    exact h1 rfl H2 (e.trans e2) (ok.ex e2) Q fun v H3 e3 r3 => q v H3 (e2.trans e3) r3
  | false =>
    show tb σ H2 Q
    exact h2 rfl H2 (e.trans e2) (ok.ex e2) Q fun v H3 e3 r3 => q v H3 (e2.trans e3) r3
theorem et_t {b : Bool} (h : Ev W M te σ H b) : Et W M (tTest te) σ H b := fun H1 e ok Q q => h H1 e ok _ fun v H2 e2 r => ⟨b, r, q H2 e2⟩
theorem et_b {b : Bool} (h : Ev W M te σ H b) : Et W M (tB te) σ H b := fun H1 e ok Q q => h H1 e ok _ fun v H2 e2 r => ⟨b, r, q H2 e2⟩
theorem et_not {b : Bool} (h : Et W M t σ H b) : Et W M (tNot t) σ H (!b) := fun H1 e ok Q q => h H1 e ok _ fun H2 e2 => q H2 e2
theorem et_and {a b : Bool} (h1 : Et W M t σ H a) (h2 : a = true → Et W M u σ H b) : Et W M (tAnd t u) σ H (a && b) := fun H1 e ok Q q => h1 H1 e ok _ fun H2 e2 => by
  cases a with
  | true => rw [if_pos rfl]; exact h2 rfl H2 (e.trans e2) (ok.ex e2) Q fun H3 e3 => q H3 (e2.trans e3)
  | false => rw [if_neg Bool.false_ne_true]; exact q H2 e2
theorem et_or {a b : Bool} (h1 : Et W M t σ H a) (h2 : a = false → Et W M u σ H b) : Et W M (tOr t u) σ H (a || b) := fun H1 e ok Q q => h1 H1 e ok _ fun H2 e2 => by
  cases a with
  | true => rw [if_pos rfl]; exact q H2 e2
  | false => rw [if_neg Bool.false_ne_true]; exact h2 rfl H2 (e.trans e2) (ok.ex e2) Q fun H3 e3 => q H3 (e2.trans e3)
end

/-! ### == of scalars -/
class PyS (α : Type) [DecidableEq α] extends Py α where
  toV : α → V
  is : ∀ {W : Wd} {H : Hp} {v : V} {x : α}, rep W H v x ↔ v = toV x
  inj : ∀ {x y : α}, toV x = toV y → x = y
  sc : ∀ x y : α, scal (toV x) (toV y) = true
instance : PyS Int := { toV := V.int, is := Iff.rfl, inj := V.int.inj, sc := fun _ _ => rfl }
instance : PyS Bool := { toV := V.bl, is := Iff.rfl, inj := V.bl.inj, sc := fun _ _ => rfl }
instance : PyS Str := { toV := V.str, is := Iff.rfl, inj := V.str.inj, sc := fun _ _ => rfl }
section
variable {α : Type} [DecidableEq α] [PyS α] {W : Wd} {M : List Addr} {σ : L2.St} {H : Hp} {ta tb : TE} {x y : α}
theorem rep_toV : Rep W M H (PyS.toV x) x := PyS.is.mpr rfl
theorem Rep.toV {v : V} (h : Rep W M H v x) : v = PyS.toV x := PyS.is.mp h
theorem dec_toV : decide (PyS.toV x = PyS.toV y) = decide (x = y) := by
  by_cases h : x = y
  · rw [h]; simp
  · rw [decide_eq_false h, decide_eq_false (fun z => h (PyS.inj z))]
theorem ev_eq (ha : Ev W M ta σ H x) (hb : Ev W M tb σ H y) : Ev W M (tOp rEq ta tb) σ H (decide (x = y)) := fun H1 e ok Q q =>
  ha H1 e ok _ fun v H2 e2 r => hb H2 (e.trans e2) (ok.ex e2) _ fun u H3 e3 r3 => by
    rw [r.toV, r3.toV]
    exact ⟨PyS.sc x y, by rw [dec_toV]; exact q _ H3 (e2.trans e3) rep_bl⟩
theorem ev_ne (ha : Ev W M ta σ H x) (hb : Ev W M tb σ H y) : Ev W M (tOp rNe ta tb) σ H (!decide (x = y)) := fun H1 e ok Q q =>
  ha H1 e ok _ fun v H2 e2 r => hb H2 (e.trans e2) (ok.ex e2) _ fun u H3 e3 r3 => by
    rw [r.toV, r3.toV]
    exact ⟨PyS.sc x y, by rw [dec_toV]; exact q _ H3 (e2.trans e3) rep_bl⟩
theorem paired_toV {xs : List α} : ∀ {vs : List V}, Paired (Rep W M H) vs xs → vs = xs.map PyS.toV := by
  induction xs with
  | nil => intro vs h; cases h; rfl
  | cons x xs ih =>
    intro vs h
    cases h with
    | cons r t => rw [List.map_cons, ← ih t, Rep.toV r]
theorem toV_paired : ∀ {xs : List α}, Paired (Rep W M H) (xs.map PyS.toV) xs
  | [] => .nil
  | _ :: _ => .cons rep_toV toV_paired
end
/-! ### == of data of any kinds (the texts of any signs) -/
section
variable {X : Cx} {pins : List (Addr × Obj)} {σ : L2.St} {H : Hp} {s : Shared}
theorem in1_units (A : Around) : A.in1.units = A.units + 1 := rfl
theorem dpAll_len {K : PySem.W.Frag} : ∀ {ds : List PyData} {vs : List V}, DpAll K H vs ds → vs.length = ds.length
  | [], _, h => by cases h; rfl
  | _ :: _, _, h => by cases h with | cons _ t => rw [List.length_cons, List.length_cons, dpAll_len t]
theorem sqL_uniq (I : L2.Inv X pins σ H s) {a : Addr} {xs ys : List V} (h : SqL X.K H a xs) (h2 : SqL X.K H a ys) : xs = ys := by
  obtain ⟨its, rv, ⟨o, k, e, _, _, hd⟩, _⟩ := I.list h
  obtain ⟨its2, rv2, ⟨o', k', e', _, _, hd'⟩, _⟩ := I.list h2
  rw [e] at e'; cases e'
  rw [hd] at hd'
  injection hd' with h1 _
  have q : its = its2 := congrArg Array.toList h1
  subst q
  exact Vals.inj rv rv2
theorem sqT_uniq (I : L2.Inv X pins σ H s) {a : Addr} {xs ys : List V} (h : SqT X.K H a xs) (h2 : SqT X.K H a ys) : xs = ys := by
  obtain ⟨its, rv, ⟨o, e, _, k, hd⟩, _⟩ := I.tuple h
  obtain ⟨its2, rv2, ⟨o', e', _, k', hd'⟩, _⟩ := I.tuple h2
  rw [e] at e'; cases e'
  rw [hd] at hd'
  injection hd' with h1 _
  have q : its = its2 := congrArg Array.toList h1
  subst q
  exact Vals.inj rv rv2
theorem sq_not (I : L2.Inv X pins σ H s) {a : Addr} {xs ys : List V} (h : SqL X.K H a xs) (h2 : SqT X.K H a ys) : False := by
  obtain ⟨its, rv, ⟨o, k, e, hc, _, hd⟩, _⟩ := I.list h
  obtain ⟨its2, rv2, ⟨o', e', hc', k', hd'⟩, _⟩ := I.tuple h2
  rw [e] at e'; cases e'
  rw [hc] at hc'
  exact absurd hc' (by decide)
mutual
theorem dp_uniq (I : L2.Inv X pins σ H s) : ∀ (d e : PyData) (v : V), Dp X.K H v d → Dp X.K H v e → d = e
  | .none, _, _, h, h2 => by cases h; cases h2; rfl
  | .bool _, _, _, h, h2 => by cases h; cases h2; rfl
  | .int _, _, _, h, h2 => by cases h; cases h2; rfl
  | .str _, _, _, h, h2 => by cases h; cases h2; rfl
  | .list ds, _, _, h, h2 => by
    cases h with
    | lst s1 a1 =>
      cases h2 with
      | lst s2 a2 => rw [sqL_uniq I s1 s2] at a1; rw [dpAll_uniq I ds _ _ a1 a2]
      | tup s2 a2 => exact (sq_not I s1 s2).elim
  | .tuple ds, _, _, h, h2 => by
    cases h with
    | tup s1 a1 =>
      cases h2 with
      | tup s2 a2 => rw [sqT_uniq I s1 s2] at a1; rw [dpAll_uniq I ds _ _ a1 a2]
      | lst s2 a2 => exact (sq_not I s2 s1).elim
  | .dict _, _, _, h, _ => by cases h
theorem dpAll_uniq (I : L2.Inv X pins σ H s) : ∀ (ds es : List PyData) (vs : List V), DpAll X.K H vs ds → DpAll X.K H vs es → ds = es
  | [], _, _, h, h2 => by cases h; cases h2; rfl
  | d :: ds, _, _, h, h2 => by
    cases h with
    | cons a b =>
      cases h2 with
      | cons a2 b2 => rw [dp_uniq I d _ _ a a2, dpAll_uniq I ds _ _ b b2]
end
mutual
theorem eqv_dp {K : PySem.W.Frag} : ∀ (d : PyData) (v : V), Dp K H v d → PyData.eqv d d = true
  | .none, _, _ => rfl
  | .bool _, _, _ => by simp [PyData.eqv]
  | .int _, _, _ => by simp [PyData.eqv]
  | .str _, _, _ => by simp [PyData.eqv]
  | .list ds, _, h => by cases h with | lst _ a => rw [PyData.eqv]; exact eqvAll_dp ds _ a
  | .tuple ds, _, h => by cases h with | tup _ a => rw [PyData.eqv]; exact eqvAll_dp ds _ a
  | .dict _, _, h => by cases h
theorem eqvAll_dp {K : PySem.W.Frag} : ∀ (ds : List PyData) (vs : List V), DpAll K H vs ds → PyData.eqvAll ds ds = true
  | [], _, _ => rfl
  | d :: ds, _, h => by cases h with | cons a b => rw [PyData.eqvAll, eqv_dp d _ a, eqvAll_dp ds _ b]; rfl
end
theorem eqvAll_same {xs ys : List PyData} (h : xs.length = ys.length) : PyData.eqvAll xs ys = (List.range xs.length).all (SeqAt.pairEq xs ys) := by
  rw [← SeqAt.eqvAll_eq xs ys, ← h, Nat.min_self]
  simp
theorem eqvAll_other {xs ys : List PyData} (h : ¬ xs.length = ys.length) : PyData.eqvAll xs ys = false := by
  rw [← SeqAt.eqvAll_eq xs ys]
  simp [h]
open SeqAt in
mutual
theorem eqE (I : L2.Inv X pins σ H s) : ∀ (d e : PyData) (A : Around) (v u : V) (v' u' : Value), Dp X.K H v d → Dp X.K H u e → RelV v v' → RelV u u' → A.units + d.depth < cLine → EqAt A s v' u' (PyData.eqv d e)
  | d, e, A, v, u, v', u', hd, he, r, q, room => by
    have c0 : A.units < cLine := by omega
    cases hd with
    | non =>
      obtain rfl : v' = Value.none := r
      cases he with
      | non => obtain rfl : u' = Value.none := q; exact EqAt.same _
      | bl b => obtain rfl : u' = Value.bool b := q; exact EqAt.none_bool _
      | int i => obtain ⟨t, rfl⟩ := q; exact EqAt.none_int _ _
      | str i => obtain ⟨t, rfl⟩ := q; exact EqAt.none_str _ _
      | lst h _ => cases q; obtain ⟨_, _, pl, _⟩ := I.list h; exact EqAt.none_list pl.isList c0
      | tup h _ => cases q; obtain ⟨_, _, pl, _⟩ := I.tuple h; exact EqAt.none_tuple pl c0
    | bl k =>
      obtain rfl : v' = Value.bool k := r
      cases he with
      | non => obtain rfl : u' = Value.none := q; exact EqAt.bool_none _
      | bl b => obtain rfl : u' = Value.bool b := q; exact EqAt.bool_bool _ _
      | int i => obtain ⟨t, rfl⟩ := q; exact EqAt.bool_int _ _ _
      | str i => obtain ⟨t, rfl⟩ := q; exact EqAt.bool_str _ _ _
      | lst h _ => cases q; obtain ⟨_, _, pl, _⟩ := I.list h; exact EqAt.bool_list _ pl.isList c0
      | tup h _ => cases q; obtain ⟨_, _, pl, _⟩ := I.tuple h; exact EqAt.bool_tuple _ pl c0
    | int k =>
      obtain ⟨t1, rfl⟩ := r
      cases he with
      | non => obtain rfl : u' = Value.none := q; exact EqAt.int_none _ _
      | bl b => obtain rfl : u' = Value.bool b := q; exact EqAt.int_bool _ _ _
      | int i => obtain ⟨t, rfl⟩ := q; exact EqAt.int_int _ _ _ _
      | str i => obtain ⟨t, rfl⟩ := q; exact EqAt.int_str _ _ _ _
      | lst h _ => cases q; obtain ⟨_, _, pl, _⟩ := I.list h; exact EqAt.int_list _ _ pl.isList c0
      | tup h _ => cases q; obtain ⟨_, _, pl, _⟩ := I.tuple h; exact EqAt.int_tuple _ _ pl c0
    | str k =>
      obtain ⟨t1, rfl⟩ := r
      cases he with
      | non => obtain rfl : u' = Value.none := q; exact EqAt.str_none _ _
      | bl b => obtain rfl : u' = Value.bool b := q; exact EqAt.str_bool _ _ _
      | int i => obtain ⟨t, rfl⟩ := q; exact EqAt.str_int _ _ _ _
      | str i => obtain ⟨t, rfl⟩ := q; exact EqAt.str_str _ _ _ _
      | lst h _ => cases q; obtain ⟨_, _, pl, _⟩ := I.list h; exact EqAt.str_list _ _ pl.isList c0
      | tup h _ => cases q; obtain ⟨_, _, pl, _⟩ := I.tuple h; exact EqAt.str_tuple _ _ pl c0
    | @lst a xs ds h ha =>
      cases r
      obtain ⟨its, rv, pl, _⟩ := I.list h
      cases he with
      | non => obtain rfl : u' = Value.none := q; exact EqAt.list_none pl.isList c0
      | bl b => obtain rfl : u' = Value.bool b := q; exact EqAt.list_bool _ pl.isList c0
      | int i => obtain ⟨t, rfl⟩ := q; exact EqAt.list_int _ _ pl.isList c0
      | str i => obtain ⟨t, rfl⟩ := q; exact EqAt.list_str _ _ pl.isList c0
      | tup h2 _ => cases q; obtain ⟨_, _, pl2, _⟩ := I.tuple h2; exact EqAt.list_tuple pl.isList pl2 c0
      | @lst b ys es h2 hb =>
        cases q
        obtain ⟨its2, rv2, pl2, _⟩ := I.list h2
        have n1 : ds.length = its.length := by rw [← rv.length]; exact (dpAll_len ha).symm
        have n2 : es.length = its2.length := by rw [← rv2.length]; exact (dpAll_len hb).symm
        have dd : A.in1.units + PyData.depthAll ds < cLine := by rw [in1_units]; rw [PyData.depth] at room; omega
        by_cases hab : a = b
        · subst hab
          rw [sqL_uniq I h h2] at ha
          have qd := dpAll_uniq I ds es _ ha hb
          rw [qd] at ha ⊢
          rw [show PyData.eqv (.list es) (.list es) = true by rw [PyData.eqv]; exact eqvAll_dp es _ ha]
          exact EqAt.same _
        · refine EqAt.of_refs hab ?_
          have he : ∀ j (h1 : j < its.toArray.size) (h2 : j < its2.toArray.size), EqAt A.in1 s its.toArray[j] its2.toArray[j] (pairEq ds es j) := fun j h1 h2 => by
            have z := eqEAll I ds es A.in1 xs ys its its2 ha hb rv rv2 dd j (by simpa using h1) (by simpa using h2)
            simpa using z
          by_cases hl : its.length = its2.length
          · rw [show PyData.eqv (.list ds) (.list es) = (List.range its.toArray.size).all (pairEq ds es) by rw [PyData.eqv, eqvAll_same (n1.trans (hl.trans n2.symm)), n1]; simp]
            exact RcAt.lists pl.isList pl2.isList (by simpa using hl) c0 he
          · rw [show PyData.eqv (.list ds) (.list es) = false by rw [PyData.eqv]; exact eqvAll_other (fun z => hl (by omega))]
            exact RcAt.lists_lengths pl.isList pl2.isList (by simpa using hl) c0
    | @tup a xs ds h ha =>
      cases r
      obtain ⟨its, rv, pl, _⟩ := I.tuple h
      cases he with
      | non => obtain rfl : u' = Value.none := q; exact EqAt.tuple_none pl c0
      | bl b => obtain rfl : u' = Value.bool b := q; exact EqAt.tuple_bool _ pl c0
      | int i => obtain ⟨t, rfl⟩ := q; exact EqAt.tuple_int _ _ pl c0
      | str i => obtain ⟨t, rfl⟩ := q; exact EqAt.tuple_str _ _ pl c0
      | lst h2 _ => cases q; obtain ⟨_, _, pl2, _⟩ := I.list h2; exact EqAt.tuple_list pl pl2.isList c0
      | @tup b ys es h2 hb =>
        cases q
        obtain ⟨its2, rv2, pl2, _⟩ := I.tuple h2
        have n1 : ds.length = its.length := by rw [← rv.length]; exact (dpAll_len ha).symm
        have n2 : es.length = its2.length := by rw [← rv2.length]; exact (dpAll_len hb).symm
        have dd : A.in1.units + PyData.depthAll ds < cLine := by rw [in1_units]; rw [PyData.depth] at room; omega
        by_cases hab : a = b
        · subst hab
          rw [sqT_uniq I h h2] at ha
          have qd := dpAll_uniq I ds es _ ha hb
          rw [qd] at ha ⊢
          rw [show PyData.eqv (.tuple es) (.tuple es) = true by rw [PyData.eqv]; exact eqvAll_dp es _ ha]
          exact EqAt.same _
        · refine EqAt.of_refs hab ?_
          have he : ∀ j (h1 : j < its.toArray.size) (h2 : j < its2.toArray.size), EqAt A.in1 s its.toArray[j] its2.toArray[j] (pairEq ds es j) := fun j h1 h2 => by
            have z := eqEAll I ds es A.in1 xs ys its its2 ha hb rv rv2 dd j (by simpa using h1) (by simpa using h2)
            simpa using z
          rw [show PyData.eqv (.tuple ds) (.tuple es) = ((List.range (min its.toArray.size its2.toArray.size)).all (pairEq ds es) && its.toArray.size == its2.toArray.size) by rw [PyData.eqv, ← eqvAll_eq, n1, n2]; simp]
          exact RcAt.tuples pl pl2 c0 he
theorem eqEAll (I : L2.Inv X pins σ H s) : ∀ (ds es : List PyData) (A : Around) (vs us : List V) (vs' us' : List Value), DpAll X.K H vs ds → DpAll X.K H us es → Vals vs vs' → Vals us us' → A.units + PyData.depthAll ds < cLine →
    ∀ (j : Nat) (h1 : j < vs'.length) (h2 : j < us'.length), EqAt A s vs'[j] us'[j] (pairEq ds es j)
  | [], _, _, _, _, _, _, ha, _, r, _, _, j, h1, _ => by cases ha; cases r; exact absurd h1 (Nat.not_lt_zero _)
  | _ :: _, [], _, _, _, _, _, _, hb, _, q, _, j, _, h2 => by cases hb; cases q; exact absurd h2 (Nat.not_lt_zero _)
  | d :: ds, e :: es, A, _, _, _, _, ha, hb, r, q, room, j, h1, h2 => by
    have d1 : A.units + d.depth < cLine := by rw [PyData.depthAll] at room; omega
    have d2 : A.units + PyData.depthAll ds < cLine := by rw [PyData.depthAll] at room; omega
    cases ha with
    | cons a1 a2 =>
      cases hb with
      | cons b1 b2 =>
        cases r with
        | cons r1 r2 =>
          cases q with
          | cons q1 q2 =>
            cases j with
            | zero => exact eqE I d e A _ _ _ _ a1 b1 r1 q1 d1
            | succ j => exact eqEAll I ds es A _ _ _ _ a2 b2 r2 q2 d2 j (Nat.lt_of_succ_lt_succ h1) (Nat.lt_of_succ_lt_succ h2)
end
open SeqAt in
theorem rcE (I : L2.Inv X pins σ H s) : ∀ (d e : PyData) (A : Around) (v u : V) (v' u' : Value), Dp X.K H v d → Dp X.K H u e → RelV v v' → RelV u u' → A.units + d.depth < cLine → RcAt A s v' u' (PyData.eqv d e)
  | d, e, A, v, u, v', u', hd, he, r, q, room => by
    have c0 : A.units < cLine := by omega
    cases hd with
    | non =>
      obtain rfl : v' = Value.none := r
      cases he with
      | non => obtain rfl : u' = Value.none := q; exact RcAt.none_none
      | bl b => obtain rfl : u' = Value.bool b := q; exact RcAt.none_bool _
      | int i => obtain ⟨t, rfl⟩ := q; exact RcAt.none_int _ _
      | str i => obtain ⟨t, rfl⟩ := q; exact RcAt.none_str _ _
      | lst h _ => cases q; obtain ⟨_, _, pl, _⟩ := I.list h; exact RcAt.none_list pl.isList c0
      | tup h _ => cases q; obtain ⟨_, _, pl, _⟩ := I.tuple h; exact RcAt.none_tuple pl c0
    | bl k =>
      obtain rfl : v' = Value.bool k := r
      cases he with
      | non => obtain rfl : u' = Value.none := q; exact RcAt.bool_none _
      | bl b => obtain rfl : u' = Value.bool b := q; exact RcAt.bool_bool _ _
      | int i => obtain ⟨t, rfl⟩ := q; exact RcAt.bool_int _ _ _
      | str i => obtain ⟨t, rfl⟩ := q; exact RcAt.bool_str _ _ _
      | lst h _ => cases q; obtain ⟨_, _, pl, _⟩ := I.list h; exact RcAt.bool_list _ pl.isList c0
      | tup h _ => cases q; obtain ⟨_, _, pl, _⟩ := I.tuple h; exact RcAt.bool_tuple _ pl c0
    | int k =>
      obtain ⟨t1, rfl⟩ := r
      cases he with
      | non => obtain rfl : u' = Value.none := q; exact RcAt.int_none _ _
      | bl b => obtain rfl : u' = Value.bool b := q; exact RcAt.int_bool _ _ _
      | int i => obtain ⟨t, rfl⟩ := q; exact RcAt.int_int _ _ _ _
      | str i => obtain ⟨t, rfl⟩ := q; exact RcAt.int_str _ _ _ _
      | lst h _ => cases q; obtain ⟨_, _, pl, _⟩ := I.list h; exact RcAt.int_list _ _ pl.isList c0
      | tup h _ => cases q; obtain ⟨_, _, pl, _⟩ := I.tuple h; exact RcAt.int_tuple _ _ pl c0
    | str k =>
      obtain ⟨t1, rfl⟩ := r
      cases he with
      | non => obtain rfl : u' = Value.none := q; exact RcAt.str_none _ _
      | bl b => obtain rfl : u' = Value.bool b := q; exact RcAt.str_bool _ _ _
      | int i => obtain ⟨t, rfl⟩ := q; exact RcAt.str_int _ _ _ _
      | str i => obtain ⟨t, rfl⟩ := q; exact RcAt.str_str _ _ _ _
      | lst h _ => cases q; obtain ⟨_, _, pl, _⟩ := I.list h; exact RcAt.str_list _ _ pl.isList c0
      | tup h _ => cases q; obtain ⟨_, _, pl, _⟩ := I.tuple h; exact RcAt.str_tuple _ _ pl c0
    | @lst a xs ds h ha =>
      cases r
      obtain ⟨its, rv, pl, _⟩ := I.list h
      cases he with
      | non => obtain rfl : u' = Value.none := q; exact RcAt.list_none pl.isList c0
      | bl b => obtain rfl : u' = Value.bool b := q; exact RcAt.list_bool _ pl.isList c0
      | int i => obtain ⟨t, rfl⟩ := q; exact RcAt.list_int _ _ pl.isList c0
      | str i => obtain ⟨t, rfl⟩ := q; exact RcAt.list_str _ _ pl.isList c0
      | tup h2 _ => cases q; obtain ⟨_, _, pl2, _⟩ := I.tuple h2; exact RcAt.list_tuple pl.isList pl2 c0
      | @lst b ys es h2 hb =>
        cases q
        obtain ⟨its2, rv2, pl2, _⟩ := I.list h2
        have n1 : ds.length = its.length := by rw [← rv.length]; exact (dpAll_len ha).symm
        have n2 : es.length = its2.length := by rw [← rv2.length]; exact (dpAll_len hb).symm
        have dd : A.in1.units + PyData.depthAll ds < cLine := by rw [in1_units]; rw [PyData.depth] at room; omega
        have he : ∀ j (h1 : j < its.toArray.size) (h2 : j < its2.toArray.size), EqAt A.in1 s its.toArray[j] its2.toArray[j] (pairEq ds es j) := fun j h1 h2 => by
          have z := eqEAll I ds es A.in1 xs ys its its2 ha hb rv rv2 dd j (by simpa using h1) (by simpa using h2)
          simpa using z
        by_cases hl : its.length = its2.length
        · rw [show PyData.eqv (.list ds) (.list es) = (List.range its.toArray.size).all (pairEq ds es) by rw [PyData.eqv, eqvAll_same (n1.trans (hl.trans n2.symm)), n1]; simp]
          exact RcAt.lists pl.isList pl2.isList (by simpa using hl) c0 he
        · rw [show PyData.eqv (.list ds) (.list es) = false by rw [PyData.eqv]; exact eqvAll_other (fun z => hl (by omega))]
          exact RcAt.lists_lengths pl.isList pl2.isList (by simpa using hl) c0
    | @tup a xs ds h ha =>
      cases r
      obtain ⟨its, rv, pl, _⟩ := I.tuple h
      cases he with
      | non => obtain rfl : u' = Value.none := q; exact RcAt.tuple_none pl c0
      | bl b => obtain rfl : u' = Value.bool b := q; exact RcAt.tuple_bool _ pl c0
      | int i => obtain ⟨t, rfl⟩ := q; exact RcAt.tuple_int _ _ pl c0
      | str i => obtain ⟨t, rfl⟩ := q; exact RcAt.tuple_str _ _ pl c0
      | lst h2 _ => cases q; obtain ⟨_, _, pl2, _⟩ := I.list h2; exact RcAt.tuple_list pl pl2.isList c0
      | @tup b ys es h2 hb =>
        cases q
        obtain ⟨its2, rv2, pl2, _⟩ := I.tuple h2
        have n1 : ds.length = its.length := by rw [← rv.length]; exact (dpAll_len ha).symm
        have n2 : es.length = its2.length := by rw [← rv2.length]; exact (dpAll_len hb).symm
        have dd : A.in1.units + PyData.depthAll ds < cLine := by rw [in1_units]; rw [PyData.depth] at room; omega
        have he : ∀ j (h1 : j < its.toArray.size) (h2 : j < its2.toArray.size), EqAt A.in1 s its.toArray[j] its2.toArray[j] (pairEq ds es j) := fun j h1 h2 => by
          have z := eqEAll I ds es A.in1 xs ys its its2 ha hb rv rv2 dd j (by simpa using h1) (by simpa using h2)
          simpa using z
        rw [show PyData.eqv (.tuple ds) (.tuple es) = ((List.range (min its.toArray.size its2.toArray.size)).all (pairEq ds es) && its.toArray.size == its2.toArray.size) by rw [PyData.eqv, ← eqvAll_eq, n1, n2]; simp]
        exact RcAt.tuples pl pl2 c0 he
open SeqAt in
theorem neE (I : L2.Inv X pins σ H s) : ∀ (d e : PyData) (A : Around) (v u : V) (v' u' : Value), Dp X.K H v d → Dp X.K H u e → RelV v v' → RelV u u' → A.units + d.depth < cLine → RcNeAt A s v' u' (!PyData.eqv d e)
  | d, e, A, v, u, v', u', hd, he, r, q, room => by
    have c0 : A.units < cLine := by omega
    cases hd with
    | non =>
      obtain rfl : v' = Value.none := r
      cases he with
      | non => obtain rfl : u' = Value.none := q; exact RcNeAt.none_none
      | bl b => obtain rfl : u' = Value.bool b := q; exact RcNeAt.none_bool _
      | int i => obtain ⟨t, rfl⟩ := q; exact RcNeAt.none_int _ _
      | str i => obtain ⟨t, rfl⟩ := q; exact RcNeAt.none_str _ _
      | lst h _ => cases q; obtain ⟨_, _, pl, _⟩ := I.list h; exact RcNeAt.none_list pl.isList c0
      | tup h _ => cases q; obtain ⟨_, _, pl, _⟩ := I.tuple h; exact RcNeAt.none_tuple pl c0
    | bl k =>
      obtain rfl : v' = Value.bool k := r
      cases he with
      | non => obtain rfl : u' = Value.none := q; exact RcNeAt.bool_none _
      | bl b => obtain rfl : u' = Value.bool b := q; exact RcNeAt.bool_bool _ _
      | int i => obtain ⟨t, rfl⟩ := q; exact RcNeAt.bool_int _ _ _
      | str i => obtain ⟨t, rfl⟩ := q; exact RcNeAt.bool_str _ _ _
      | lst h _ => cases q; obtain ⟨_, _, pl, _⟩ := I.list h; exact RcNeAt.bool_list _ pl.isList c0
      | tup h _ => cases q; obtain ⟨_, _, pl, _⟩ := I.tuple h; exact RcNeAt.bool_tuple _ pl c0
    | int k =>
      obtain ⟨t1, rfl⟩ := r
      cases he with
      | non => obtain rfl : u' = Value.none := q; exact RcNeAt.int_none _ _
      | bl b => obtain rfl : u' = Value.bool b := q; exact RcNeAt.int_bool _ _ _
      | int i => obtain ⟨t, rfl⟩ := q; exact RcNeAt.int_int _ _ _ _
      | str i => obtain ⟨t, rfl⟩ := q; exact RcNeAt.int_str _ _ _ _
      | lst h _ => cases q; obtain ⟨_, _, pl, _⟩ := I.list h; exact RcNeAt.int_list _ _ pl.isList c0
      | tup h _ => cases q; obtain ⟨_, _, pl, _⟩ := I.tuple h; exact RcNeAt.int_tuple _ _ pl c0
    | str k =>
      obtain ⟨t1, rfl⟩ := r
      cases he with
      | non => obtain rfl : u' = Value.none := q; exact RcNeAt.str_none _ _
      | bl b => obtain rfl : u' = Value.bool b := q; exact RcNeAt.str_bool _ _ _
      | int i => obtain ⟨t, rfl⟩ := q; exact RcNeAt.str_int _ _ _ _
      | str i => obtain ⟨t, rfl⟩ := q; exact RcNeAt.str_str _ _ _ _
      | lst h _ => cases q; obtain ⟨_, _, pl, _⟩ := I.list h; exact RcNeAt.str_list _ _ pl.isList c0
      | tup h _ => cases q; obtain ⟨_, _, pl, _⟩ := I.tuple h; exact RcNeAt.str_tuple _ _ pl c0
    | @lst a xs ds h ha =>
      cases r
      obtain ⟨its, rv, pl, _⟩ := I.list h
      cases he with
      | non => obtain rfl : u' = Value.none := q; exact RcNeAt.list_none pl.isList c0
      | bl b => obtain rfl : u' = Value.bool b := q; exact RcNeAt.list_bool _ pl.isList c0
      | int i => obtain ⟨t, rfl⟩ := q; exact RcNeAt.list_int _ _ pl.isList c0
      | str i => obtain ⟨t, rfl⟩ := q; exact RcNeAt.list_str _ _ pl.isList c0
      | tup h2 _ => cases q; obtain ⟨_, _, pl2, _⟩ := I.tuple h2; exact RcNeAt.list_tuple pl.isList pl2 c0
      | @lst b ys es h2 hb =>
        cases q
        obtain ⟨its2, rv2, pl2, _⟩ := I.list h2
        have n1 : ds.length = its.length := by rw [← rv.length]; exact (dpAll_len ha).symm
        have n2 : es.length = its2.length := by rw [← rv2.length]; exact (dpAll_len hb).symm
        have dd : A.in1.units + PyData.depthAll ds < cLine := by rw [in1_units]; rw [PyData.depth] at room; omega
        have he : ∀ j (h1 : j < its.toArray.size) (h2 : j < its2.toArray.size), EqAt A.in1 s its.toArray[j] its2.toArray[j] (pairEq ds es j) := fun j h1 h2 => by
          have z := eqEAll I ds es A.in1 xs ys its its2 ha hb rv rv2 dd j (by simpa using h1) (by simpa using h2)
          simpa using z
        by_cases hl : its.length = its2.length
        · rw [show PyData.eqv (.list ds) (.list es) = (List.range its.toArray.size).all (pairEq ds es) by rw [PyData.eqv, eqvAll_same (n1.trans (hl.trans n2.symm)), n1]; simp]
          exact RcNeAt.lists pl.isList pl2.isList (by simpa using hl) c0 he
        · rw [show PyData.eqv (.list ds) (.list es) = false by rw [PyData.eqv]; exact eqvAll_other (fun z => hl (by omega))]
          exact RcNeAt.lists_lengths pl.isList pl2.isList (by simpa using hl) c0
    | @tup a xs ds h ha =>
      cases r
      obtain ⟨its, rv, pl, _⟩ := I.tuple h
      cases he with
      | non => obtain rfl : u' = Value.none := q; exact RcNeAt.tuple_none pl c0
      | bl b => obtain rfl : u' = Value.bool b := q; exact RcNeAt.tuple_bool _ pl c0
      | int i => obtain ⟨t, rfl⟩ := q; exact RcNeAt.tuple_int _ _ pl c0
      | str i => obtain ⟨t, rfl⟩ := q; exact RcNeAt.tuple_str _ _ pl c0
      | lst h2 _ => cases q; obtain ⟨_, _, pl2, _⟩ := I.list h2; exact RcNeAt.tuple_list pl pl2.isList c0
      | @tup b ys es h2 hb =>
        cases q
        obtain ⟨its2, rv2, pl2, _⟩ := I.tuple h2
        have n1 : ds.length = its.length := by rw [← rv.length]; exact (dpAll_len ha).symm
        have n2 : es.length = its2.length := by rw [← rv2.length]; exact (dpAll_len hb).symm
        have dd : A.in1.units + PyData.depthAll ds < cLine := by rw [in1_units]; rw [PyData.depth] at room; omega
        have he : ∀ j (h1 : j < its.toArray.size) (h2 : j < its2.toArray.size), EqAt A.in1 s its.toArray[j] its2.toArray[j] (pairEq ds es j) := fun j h1 h2 => by
          have z := eqEAll I ds es A.in1 xs ys its its2 ha hb rv rv2 dd j (by simpa using h1) (by simpa using h2)
          simpa using z
        rw [show PyData.eqv (.tuple ds) (.tuple es) = ((List.range (min its.toArray.size its2.toArray.size)).all (pairEq ds es) && its.toArray.size == its2.toArray.size) by rw [PyData.eqv, ← eqvAll_eq, n1, n2]; simp]
        exact RcNeAt.tuples pl pl2 c0 he
open SeqAt in
/-- the items of a list or tuple, each against one value -/
theorem itemsE (I : L2.Inv X pins σ H s) {ds : List PyData} {d : PyData} {xs : List V} {its : List Value} {v : V} {v' : Value} (A : Around) (ha : DpAll X.K H xs ds) (hd : Dp X.K H v d) (r : Vals xs its) (q : RelV v v') (room : A.units + PyData.depthAll ds < cLine) :
    ∃ e : Value → Bool, (∀ y ∈ its, EqAt A s y v' (e y)) ∧ ∀ j, j < its.length → ∃ y d', its[j]? = some y ∧ ds[j]? = some d' ∧ e y = PyData.eqv d' d := by
  have one : ∀ (j : Nat) (y : Value), its[j]? = some y → ∃ d' w, ds[j]? = some d' ∧ Dp X.K H w d' ∧ RelV w y ∧ EqAt A s y v' (PyData.eqv d' d) := by
    intro j y hy
    induction j generalizing ds xs its with
    | zero =>
      cases r with
      | nil => cases hy
      | cons r1 r2 =>
        cases ha with
        | cons a1 a2 =>
          cases (show some _ = some y from hy)
          exact ⟨_, _, rfl, a1, r1, eqE I _ _ A _ _ _ _ a1 hd r1 q (by rw [PyData.depthAll] at room; omega)⟩
    | succ j ih =>
      cases r with
      | nil => cases hy
      | cons r1 r2 =>
        cases ha with
        | cons a1 a2 => exact ih a2 r2 (by rw [PyData.depthAll] at room; omega) hy
  have two : ∀ (j k : Nat) (y : Value) (d1 d2 : PyData), its[j]? = some y → its[k]? = some y → ds[j]? = some d1 → ds[k]? = some d2 → d1 = d2 := fun j k y d1 d2 hj hk h1 h2 => by
    obtain ⟨e1, w1, f1, g1, r1, _⟩ := one j y hj
    obtain ⟨e2, w2, f2, g2, r2, _⟩ := one k y hk
    rw [h1] at f1; rw [h2] at f2
    cases f1; cases f2
    rw [r1.inj r2] at g1
    exact dp_uniq I _ _ _ g1 g2
  classical
  refine ⟨fun y => if h : ∃ j, its[j]? = some y then PyData.eqv (ds.getD h.choose .none) d else false, fun y hy => ?_, fun j hj => ?_⟩
  · obtain ⟨j, hj⟩ := List.mem_iff_getElem?.mp hy
    have h : ∃ j, its[j]? = some y := ⟨j, hj⟩
    obtain ⟨d', w, f, _, _, k⟩ := one _ y h.choose_spec
    have e : (if h : ∃ j, its[j]? = some y then PyData.eqv (ds.getD h.choose .none) d else false) = PyData.eqv d' d := by
      rw [dif_pos h, List.getD_eq_getElem?_getD, f]
      rfl
    show EqAt A s y v' (if h : ∃ j, its[j]? = some y then PyData.eqv (ds.getD h.choose .none) d else false)
    rw [e]
    exact k
  · have hy : its[j]? = some its[j] := List.getElem?_eq_getElem hj
    have h : ∃ k, its[k]? = some its[j] := ⟨j, hy⟩
    obtain ⟨d', w, f, _, _, _⟩ := one j _ hy
    obtain ⟨d2, w2, f2, _, _, _⟩ := one _ _ h.choose_spec
    refine ⟨its[j], d', hy, f, ?_⟩
    show (if h : ∃ k, its[k]? = some its[j] then PyData.eqv (ds.getD h.choose .none) d else false) = PyData.eqv d' d
    rw [dif_pos h, List.getD_eq_getElem?_getD, f2, two j _ _ d' d2 hy h.choose_spec f f2]
    rfl
theorem any_items {its : List Value} {ds : List PyData} {e : Value → Bool} {d : PyData} (hl : its.length = ds.length) (h : ∀ j, j < its.length → ∃ y d', its[j]? = some y ∧ ds[j]? = some d' ∧ e y = PyData.eqv d' d) :
    its.map e = ds.map fun z => PyData.eqv z d := by
  refine List.ext_getElem? fun j => ?_
  rw [List.getElem?_map, List.getElem?_map]
  by_cases hj : j < its.length
  · obtain ⟨y, d', h1, h2, h3⟩ := h j hj
    rw [h1, h2]
    show some (e y) = some _
    rw [h3]
  · rw [List.getElem?_eq_none (by omega), List.getElem?_eq_none (by omega)]
    rfl
end

section
variable {X : Cx}
/-- x == y, x != y, of data of any kinds -/
def rEqE (K : PySem.W.Frag) : R2 := fun x y H Q => ∃ d e, Dp K H x d ∧ Dp K H y e ∧ d.depth ≤ 64 ∧ Q (.bl (PyData.eqv d e)) H
def rNeE (K : PySem.W.Frag) : R2 := fun x y H Q => ∃ d e, Dp K H x d ∧ Dp K H y e ∧ d.depth ≤ 64 ∧ Q (.bl (!PyData.eqv d e)) H
theorem op_eqE (hu : X.A.units + 64 < cLine) : OpR X (compareOp .Eq) (rEqE X.K) := by
  intro pins s σ H x y v u Q I rx ry h
  obtain ⟨d, e, hd, he, z, q⟩ := h
  exact rcE I d e X.A x y v u hd he rx ry (by omega) X.prog X.w X.xe _ ⟨.bl _, H, I, rfl, q⟩
theorem op_neE (hu : X.A.units + 64 < cLine) : OpR X (compareOp .NotEq) (rNeE X.K) := by
  intro pins s σ H x y v u Q I rx ry h
  obtain ⟨d, e, hd, he, z, q⟩ := h
  exact neE I d e X.A x y v u hd he rx ry (by omega) X.prog X.w X.xe _ ⟨.bl _, H, I, rfl, q⟩
/-- x in xs, a list or a tuple -/
def rInE (K : PySem.W.Frag) (neg : Bool) : R2 := fun x y H Q => ∃ a d ds xs, y = .ref a ∧ Dp K H x d ∧ (SqL K H a xs ∨ SqT K H a xs) ∧ DpAll K H xs ds ∧ PyData.depthAll ds ≤ 64 ∧ Q (.bl (if neg then !ds.any (fun z => PyData.eqv z d) else ds.any fun z => PyData.eqv z d)) H
theorem op_inE (hu : X.A.units + 65 < cLine) : OpR X (compareOp .In) (rInE X.K false) := by
  intro pins s σ H x y v u Q I rx ry h
  obtain ⟨a, d, ds, xs, rfl, hd, hq, ha, z, q⟩ := h
  cases ry
  have fin : ∀ (its : List Value) (e : Value → Bool), its.map e = ds.map (fun z => PyData.eqv z d) → EP X pins σ Q (.bool (its.toArray.any e)) s := fun its e h => by
    have e1 : its.toArray.any e = ds.any fun z => PyData.eqv z d := by
      have : (its.map e).any id = (ds.map fun z => PyData.eqv z d).any id := by rw [h]
      simpa [List.any_map] using this
    rw [e1]
    exact ⟨.bl _, H, I, rfl, q⟩
  rcases hq with hq | hq
  · obtain ⟨its, r, pl, _⟩ := I.list hq
    obtain ⟨e, h1, h2⟩ := itemsE I X.A.in1 ha hd r rx (by rw [in1_units]; omega)
    exact SeqAt.in_listAt e pl.isList (fun y hy => h1 y (by simpa using hy)) (fin its e (any_items (by rw [← r.length, dpAll_len ha]) h2))
  · obtain ⟨its, r, pl, _⟩ := I.tuple hq
    obtain ⟨e, h1, h2⟩ := itemsE I X.A.in1 ha hd r rx (by rw [in1_units]; omega)
    exact SeqAt.in_tupleAt e pl (fun y hy => h1 y (by simpa using hy)) (fin its e (any_items (by rw [← r.length, dpAll_len ha]) h2))
theorem op_notInE (hu : X.A.units + 65 < cLine) : OpR X (compareOp .NotIn) (rInE X.K true) := by
  intro pins s σ H x y v u Q I rx ry h
  obtain ⟨a, d, ds, xs, rfl, hd, hq, ha, z, q⟩ := h
  cases ry
  have fin : ∀ (its : List Value) (e : Value → Bool), its.map e = ds.map (fun z => PyData.eqv z d) → EP X pins σ Q (.bool (!its.toArray.any e)) s := fun its e h => by
    have e1 : its.toArray.any e = ds.any fun z => PyData.eqv z d := by
      have : (its.map e).any id = (ds.map fun z => PyData.eqv z d).any id := by rw [h]
      simpa [List.any_map] using this
    rw [e1]
    exact ⟨.bl _, H, I, rfl, q⟩
  rcases hq with hq | hq
  · obtain ⟨its, r, pl, _⟩ := I.list hq
    obtain ⟨e, h1, h2⟩ := itemsE I X.A.in1 ha hd r rx (by rw [in1_units]; omega)
    exact SeqAt.notIn_listAt e pl.isList (fun y hy => h1 y (by simpa using hy)) (fin its e (any_items (by rw [← r.length, dpAll_len ha]) h2))
  · obtain ⟨its, r, pl, _⟩ := I.tuple hq
    obtain ⟨e, h1, h2⟩ := itemsE I X.A.in1 ha hd r rx (by rw [in1_units]; omega)
    exact SeqAt.notIn_tupleAt e pl (fun y hy => h1 y (by simpa using hy)) (fin its e (any_items (by rw [← r.length, dpAll_len ha]) h2))
/-- xs.count(x), a list -/
def rCountE (K : PySem.W.Frag) : V → List V → Hp → VK → Prop := fun x vs H Q => ∃ a y d ds xs, x = .ref a ∧ vs = [y] ∧ Dp K H y d ∧ SqL K H a xs ∧ DpAll K H xs ds ∧ PyData.depthAll ds ≤ 64 ∧ Q (.int ((ds.countP fun z => PyData.eqv z d : Nat) : Int)) H
theorem mt_countE (hu : X.A.units + 65 < cLine) : MtR X "list.count" (rCountE X.K) := by
  intro pins s σ H x vs v us Q I rx rv h
  obtain ⟨a, y, d, ds, xs, rfl, rfl, hd, hq, ha, z, q⟩ := h
  cases rx
  obtain ⟨u, rfl, ru⟩ := rv.one
  obtain ⟨its, r, pl, _⟩ := I.list hq
  obtain ⟨o, ho, hc, n, hs⟩ := pl.isList
  obtain ⟨cls, dd, data, sl⟩ := o
  simp only at hc hs
  subst hc
  subst hs
  obtain ⟨e, h1, h2⟩ := itemsE I X.A.in1 ha hd r ru (by rw [in1_units]; omega)
  have hm := any_items (by rw [← r.length, dpAll_len ha]) h2
  have e1 : its.countP e = ds.countP fun z => PyData.eqv z d := by
    have : (its.map e).countP id = (ds.map fun z => PyData.eqv z d).countP id := by rw [hm]
    simpa [List.countP_map] using this
  refine call_meets F.slot_list_count ⟨_, ho, rfl⟩ F.entry_list_count (F.args_list_count_2 _ _) (SeqAt.list_countAt a its.toArray n dd sl u e) ⟨ho, fun y hy => h1 y (by simpa using hy), ?_⟩
  rw [show its.toArray.toList.countP e = ds.countP fun z => PyData.eqv z d from e1]
  exact ⟨.int _, H, I.tok _, ⟨_, rfl⟩, q⟩
end

end RG
namespace RG
open PySem PySem.Spec PyProof.Rows L2

/-! ### data that == tells apart -/
class PyD (α : Type) extends Py α where
  dat : α → PyData
  dp : ∀ {W : Wd} {H : Hp} {v : V} {x : α}, rep W H v x → Dp W.K H v (dat x)
  eqv : ∀ x y : α, PyData.eqv (dat x) (dat y) = true ↔ x = y
  dep : Nat
  depth : ∀ x : α, (dat x).depth ≤ dep
instance : PyD Int := { dat := .int, dp := fun h => by cases h; exact .int _, eqv := fun x y => by simp [PyData.eqv], dep := 0, depth := fun _ => by simp [PyData.depth] }
instance : PyD Bool := { dat := .bool, dp := fun h => by cases h; exact .bl _, eqv := fun x y => by simp [PyData.eqv], dep := 0, depth := fun _ => by simp [PyData.depth] }
instance : PyD Str := { dat := .str, dp := fun h => by cases h; exact .str _, eqv := fun x y => by simp [PyData.eqv], dep := 0, depth := fun _ => by simp [PyData.depth] }
instance : PyD Unit := { dat := fun _ => .none, dp := fun h => by cases h; exact .non, eqv := fun x y => by simp [PyData.eqv], dep := 0, depth := fun _ => by simp [PyData.depth] }
section
variable {α β : Type} [PyD α] [PyD β] {W : Wd} {H : Hp}
theorem dpAll {xs : List α} : ∀ {vs : List V}, Paired (Py.rep W H) vs xs → DpAll W.K H vs (xs.map PyD.dat) := by
  induction xs with
  | nil => intro vs h; cases h; exact .nil
  | cons x xs ih =>
    intro vs h
    cases h with
    | cons r t => exact .cons (PyD.dp r) (ih t)
theorem eqvAll_iff : ∀ xs ys : List α, PyData.eqvAll (xs.map PyD.dat) (ys.map PyD.dat) = true ↔ xs = ys
  | [], [] => by simp [PyData.eqvAll]
  | [], _ :: _ => by simp [PyData.eqvAll]
  | _ :: _, [] => by simp [PyData.eqvAll]
  | x :: xs, y :: ys => by simp [PyData.eqvAll, PyD.eqv, eqvAll_iff xs ys]
theorem depthAll_le : ∀ xs : List α, PyData.depthAll (xs.map PyD.dat) ≤ PyD.dep α
  | [] => by simp [PyData.depthAll]
  | x :: xs => by
    have h1 := PyD.depth x
    have h2 := depthAll_le xs
    simp only [List.map_cons, PyData.depthAll]
    omega
instance : PyD (List α) where
  dat xs := .list (xs.map PyD.dat)
  dp h := by
    obtain ⟨a, vs, e, h, p⟩ := h
    rw [e]; exact .lst (SqL.of h) (dpAll p)
  eqv x y := by rw [PyData.eqv]; exact eqvAll_iff x y
  dep := PyD.dep α + 1
  depth xs := by have := depthAll_le xs; rw [PyData.depth]; omega
instance : PyD (Tup α) where
  dat xs := .tuple (xs.l.map PyD.dat)
  dp h := by
    obtain ⟨a, vs, e, h, p⟩ := h
    rw [e]; exact .tup (.inl h) (dpAll p)
  eqv x y := by rw [PyData.eqv, eqvAll_iff]; cases x; cases y; simp
  dep := PyD.dep α + 1
  depth xs := by have := depthAll_le xs.l; rw [PyData.depth]; omega
instance : PyD (α × β) where
  dat x := .tuple [PyD.dat x.1, PyD.dat x.2]
  dp h := by
    obtain ⟨a, v1, v2, e, h, r1, r2⟩ := h
    rw [e]; exact .tup (.inl h) (.cons (PyD.dp r1) (.cons (PyD.dp r2) .nil))
  eqv x y := by rw [PyData.eqv]; simp [PyData.eqvAll, PyD.eqv, Prod.ext_iff]
  dep := PyD.dep α + PyD.dep β + 1
  depth x := by have h1 := PyD.depth x.1; have h2 := PyD.depth x.2; simp only [PyData.depth, PyData.depthAll]; omega
end
section
variable {α : Type} [DecidableEq α] [PyD α] {W : Wd} {M : List Addr} {σ : L2.St} {H H' : Hp} {ta tb : TE} {x y : α}
theorem eqv_dat : PyData.eqv (PyD.dat x) (PyD.dat y) = decide (x = y) := by
  rw [Bool.eq_iff_iff, PyD.eqv, decide_eq_true_iff]
theorem cut_le : Le (cut W M H) H := ⟨fun _ _ e => cut_at e⟩
theorem Rep.at {α : Type} [Py α] {x : α} {v : V} (h : Rep W M H v x) : Py.rep W H v x := Py.mono cut_le h
theorem Rep.dp {v : V} (h : Rep W M H v x) : Dp W.K H v (PyD.dat x) := PyD.dp (W := W) (H := H) h.at
theorem ev_eqD (ha : Ev W M ta σ H x) (hb : Ev W M tb σ H y) (h : PyD.dep α ≤ 64 := by decide) : Ev W M (tOp (rEqE W.K) ta tb) σ H (decide (x = y)) := fun H1 e ok Q q =>
  ha H1 e ok _ fun v H2 e2 r => hb H2 (e.trans e2) (ok.ex e2) _ fun u H3 e3 r3 =>
    ⟨_, _, (r.up e3).dp, r3.dp, Nat.le_trans (PyD.depth x) h, by rw [eqv_dat]; exact q _ H3 (e2.trans e3) rep_bl⟩
theorem ev_neD (ha : Ev W M ta σ H x) (hb : Ev W M tb σ H y) (h : PyD.dep α ≤ 64 := by decide) : Ev W M (tOp (rNeE W.K) ta tb) σ H (!decide (x = y)) := fun H1 e ok Q q =>
  ha H1 e ok _ fun v H2 e2 r => hb H2 (e.trans e2) (ok.ex e2) _ fun u H3 e3 r3 =>
    ⟨_, _, (r.up e3).dp, r3.dp, Nat.le_trans (PyD.depth x) h, by rw [eqv_dat]; exact q _ H3 (e2.trans e3) rep_bl⟩
theorem any_dat {xs : List α} : (xs.map PyD.dat).any (fun z => PyData.eqv z (PyD.dat x)) = decide (x ∈ xs) := by
  rw [List.any_map]
  induction xs with
  | nil => simp
  | cons y ys ih =>
    rw [List.any_cons, ih]
    show (PyData.eqv (PyD.dat y) (PyD.dat x) || _) = _
    rw [eqv_dat]
    by_cases h : y = x
    · simp [h]
    · have h' : ¬ x = y := fun z => h z.symm
      simp [h, h']
theorem count_dat {xs : List α} : (xs.map PyD.dat).countP (fun z => PyData.eqv z (PyD.dat x)) = xs.count x := by
  rw [List.countP_map]
  induction xs with
  | nil => simp
  | cons y ys ih =>
    rw [List.countP_cons, ih, List.count_cons]
    show _ + (if PyData.eqv (PyD.dat y) (PyD.dat x) = true then 1 else 0) = _
    rw [eqv_dat]
    by_cases h : y = x <;> simp [h]
theorem Rep.dpAll {xs : List α} {vs : List V} (p : Paired (Rep W M H) vs xs) : DpAll W.K H vs (xs.map PyD.dat) := RG.dpAll (W := W) (paired_mono (fun _ _ r => Rep.at r) p)
theorem ev_in {xs : List α} (ha : Ev W M ta σ H x) (hb : Ev W M tb σ H xs) (h : PyD.dep α ≤ 64 := by decide) : Ev W M (tOp (rInE W.K false) ta tb) σ H (decide (x ∈ xs)) := fun H1 e ok Q q =>
  ha H1 e ok _ fun v H2 e2 r => hb H2 (e.trans e2) (ok.ex e2) _ fun u H3 e3 r3 => by
    obtain ⟨a, vs, eu, hh, _, _, p⟩ := r3.lst
    exact ⟨a, _, _, vs, eu, (r.up e3).dp, .inl (SqL.of hh), Rep.dpAll p, Nat.le_trans (depthAll_le xs) h, by rw [if_neg Bool.false_ne_true, any_dat]; exact q _ H3 (e2.trans e3) rep_bl⟩
theorem ev_notIn {xs : List α} (ha : Ev W M ta σ H x) (hb : Ev W M tb σ H xs) (h : PyD.dep α ≤ 64 := by decide) : Ev W M (tOp (rInE W.K true) ta tb) σ H (!decide (x ∈ xs)) := fun H1 e ok Q q =>
  ha H1 e ok _ fun v H2 e2 r => hb H2 (e.trans e2) (ok.ex e2) _ fun u H3 e3 r3 => by
    obtain ⟨a, vs, eu, hh, _, _, p⟩ := r3.lst
    exact ⟨a, _, _, vs, eu, (r.up e3).dp, .inl (SqL.of hh), Rep.dpAll p, Nat.le_trans (depthAll_le xs) h, by rw [if_pos rfl, any_dat]; exact q _ H3 (e2.trans e3) rep_bl⟩
theorem ev_inT {xs : Tup α} (ha : Ev W M ta σ H x) (hb : Ev W M tb σ H xs) (h : PyD.dep α ≤ 64 := by decide) : Ev W M (tOp (rInE W.K false) ta tb) σ H (decide (x ∈ xs.l)) := fun H1 e ok Q q =>
  ha H1 e ok _ fun v H2 e2 r => hb H2 (e.trans e2) (ok.ex e2) _ fun u H3 e3 r3 => by
    obtain ⟨a, vs, eu, hh, _, _, p⟩ := r3.tup
    exact ⟨a, _, _, vs, eu, (r.up e3).dp, .inr (.inl hh), Rep.dpAll p, Nat.le_trans (depthAll_le xs.l) h, by rw [if_neg Bool.false_ne_true, any_dat]; exact q _ H3 (e2.trans e3) rep_bl⟩
end
end RG
namespace RG
open PySem PySem.Spec PyProof.Rows L2 StX

/-! ### lists item by item -/
section
variable {α β : Type} {F : α → β → Prop}
theorem Pd.length {xs : List α} {ys : List β} (h : Paired F xs ys) : xs.length = ys.length := Paired.length h
theorem Pd.get : ∀ {xs : List α} {ys : List β} {i : Nat} {y : β}, Paired F xs ys → ys[i]? = some y → ∃ x, xs[i]? = some x ∧ F x y
  | _, _, i, _, .nil, e => by simp at e
  | _, _, 0, _, .cons r _, e => by cases (show some _ = some _ from e); exact ⟨_, rfl, r⟩
  | _, _, i + 1, y, .cons _ t, e => Pd.get (i := i) t e
theorem Pd.getL : ∀ {xs : List α} {ys : List β} {i : Nat} {x : α}, Paired F xs ys → xs[i]? = some x → ∃ y, ys[i]? = some y ∧ F x y
  | _, _, i, _, .nil, e => by simp at e
  | _, _, 0, _, .cons r _, e => by cases (show some _ = some _ from e); exact ⟨_, rfl, r⟩
  | _, _, i + 1, x, .cons _ t, e => Pd.getL (i := i) t e
theorem Pd.append : ∀ {xs xs' : List α} {ys ys' : List β}, Paired F xs ys → Paired F xs' ys' → Paired F (xs ++ xs') (ys ++ ys')
  | _, _, _, _, .nil, q => q
  | _, _, _, _, .cons r t, q => .cons r (Pd.append t q)
theorem Pd.take : ∀ {xs : List α} {ys : List β} (n : Nat), Paired F xs ys → Paired F (xs.take n) (ys.take n)
  | _, _, 0, _ => .nil
  | _, _, _ + 1, .nil => .nil
  | _, _, n + 1, .cons r t => .cons r (Pd.take n t)
theorem Pd.drop : ∀ {xs : List α} {ys : List β} (n : Nat), Paired F xs ys → Paired F (xs.drop n) (ys.drop n)
  | _, _, 0, r => r
  | _, _, _ + 1, .nil => .nil
  | _, _, n + 1, .cons _ t => Pd.drop n t
theorem Pd.set : ∀ {xs : List α} {ys : List β} {x : α} {y : β} (n : Nat), Paired F xs ys → F x y → Paired F (xs.set n x) (ys.set n y)
  | _, _, _, _, _, .nil, _ => .nil
  | _, _, _, _, 0, .cons _ t, q => .cons q t
  | _, _, _, _, n + 1, .cons r t, q => .cons r (Pd.set n t q)
theorem Pd.erase : ∀ {xs : List α} {ys : List β} (n : Nat), Paired F xs ys → Paired F (xs.eraseIdx n) (ys.eraseIdx n)
  | _, _, _, .nil => .nil
  | _, _, 0, .cons _ t => t
  | _, _, n + 1, .cons r t => .cons r (Pd.erase n t)
theorem Pd.rev {xs : List α} {ys : List β} (h : Paired F xs ys) : Paired F xs.reverse ys.reverse := by
  induction h with
  | nil => exact .nil
  | cons r t ih => rw [List.reverse_cons, List.reverse_cons]; exact Pd.append ih (.cons r .nil)
theorem Pd.at {xs : List α} {ys : List β} {i : Int} {y : β} (h : Paired F xs ys) (e : atI ys i = some y) : ∃ x, atI xs i = some x ∧ F x y := by
  unfold atI at e ⊢
  rw [Pd.length h]
  cases q : ixN ys.length i with
  | none => rw [q] at e; cases e
  | some j => rw [q] at e; exact Pd.get h e
/-- a part of a list, as a slice takes it -/
def cutG {α : Type} (xs : List α) (lo hi : Option Int) : List α := (xs.drop (HT.sIx xs.length 0 lo)).take (HT.sIx xs.length xs.length hi - HT.sIx xs.length 0 lo)
theorem Pd.cut {xs : List V} {ys : List β} {F : V → β → Prop} (h : Paired F xs ys) (lo hi : Option Int) : Paired F (cutV xs lo hi) (cutG ys lo hi) := by
  unfold cutV cutG
  rw [Pd.length h]
  exact Pd.take _ (Pd.drop _ h)
theorem Pd.mono {G : α → β → Prop} {xs : List α} {ys : List β} (h : Paired F xs ys) (q : ∀ x y, F x y → G x y) : Paired G xs ys := paired_mono q h
end
theorem atI_getD {α : Type} {xs : List α} {i : Int} (d : α) (h0 : 0 ≤ i) (h1 : i < xs.length) : atI xs i = some (xs.getD i.toNat d) := by
  obtain ⟨n, rfl⟩ := Int.eq_ofNat_of_zero_le h0
  have hn : n < xs.length := by omega
  refine atI_nat ?_
  rw [List.getD_eq_getElem?_getD, Int.toNat_natCast, List.getElem?_eq_getElem hn]
  rfl
theorem sz {n : Nat} (h : n ≤ 1000000) : n ≤ sizeLine := Nat.le_trans h (by decide)
theorem sl {n : Nat} (h : n ≤ 1000000) : n < sizeLine := Nat.lt_of_le_of_lt h (by decide)

/-! ### calls of built-ins, by name -/
def rLenS (K : PySem.W.Frag) : List V → Hp → VK → Prop := fun xs H Q => ∃ p ys, xs = [.ref p] ∧ (SqL K H p ys ∨ SqT K H p ys) ∧ Q (.int ys.length) H
def rLenX : List V → Hp → VK → Prop := fun xs H Q => ∃ z, xs = [.str z] ∧ z.length ≤ sizeLine ∧ Q (.int z.length) H
def rListOf (K : PySem.W.Frag) : List V → Hp → VK → Prop := fun xs H Q => ∃ p ys, xs = [.ref p] ∧ (SqL K H p ys ∨ SqT K H p ys) ∧ ∀ l, H l = none → Q (.ref l) (upd H l (.lst ys))
def rTupOf (K : PySem.W.Frag) : List V → Hp → VK → Prop := fun xs H Q => ∃ p ys, xs = [.ref p] ∧ ((SqL K H p ys ∧ ∀ l, H l = none → Q (.ref l) (upd H l (.tup ys))) ∨ (SqT K H p ys ∧ Q (.ref p) H))
def rAbs : List V → Hp → VK → Prop := fun xs H Q => ∃ i, xs = [.int i] ∧ Q (.int (if i < 0 then -i else i)) H
def rInt : List V → Hp → VK → Prop := fun xs H Q => (∃ i, xs = [.int i] ∧ Q (.int i) H) ∨ ∃ k, xs = [.bl k] ∧ Q (.int (if k then 1 else 0)) H
def rStrI : List V → Hp → VK → Prop := fun xs H Q => ∃ i, xs = [.int i] ∧ i.natAbs.log2 < 1920 ∧ Q (.str (toString i)) H
def rMax2 : List V → Hp → VK → Prop := fun xs H Q => ∃ i j, xs = [.int i, .int j] ∧ Q (.int (if j > i then j else i)) H
def rMin2 : List V → Hp → VK → Prop := fun xs H Q => ∃ i j, xs = [.int i, .int j] ∧ Q (.int (if j < i then j else i)) H
section
variable {X : Cx}
theorem cLenS : CallR X (.builtin "len") (rLenS X.K) := call_len_seq
theorem cLenX : CallR X (.builtin "len") rLenX := call_len_str
theorem cListOf : CallR X (.type "list") (rListOf X.K) := call_list_of
theorem cTupOf : CallR X (.type "tuple") (rTupOf X.K) := call_tuple_of
theorem cAbs : CallR X (.builtin "abs") rAbs := call_abs
theorem cInt : CallR X (.type "int") rInt := call_int1
theorem cStrI : CallR X (.type "str") rStrI := call_str_int
theorem cMax2 (hc : X.calm = true) : CallR X (.builtin "max") rMax2 := call_max2 hc
theorem cMin2 (hc : X.calm = true) : CallR X (.builtin "min") rMin2 := call_min2 hc
end

/-! ### data of any kinds -/
mutual
theorem dp_le {K : PySem.W.Frag} {H H' : Hp} (l : Le H H') : ∀ (d : PyData) (v : V), Dp K H v d → Dp K H' v d
  | .none, _, h => by cases h; exact .non
  | .bool _, _, h => by cases h; exact .bl _
  | .int _, _, h => by cases h; exact .int _
  | .str _, _, h => by cases h; exact .str _
  | .list ds, _, h => by
    cases h with
    | lst q a => exact .lst (q.elim (fun q => .inl (l.rd q)) .inr) (dpAll_le l ds _ a)
  | .tuple ds, _, h => by
    cases h with
    | tup q a => exact .tup (q.elim (fun q => .inl (l.rd q)) .inr) (dpAll_le l ds _ a)
  | .dict _, _, h => by cases h
theorem dpAll_le {K : PySem.W.Frag} {H H' : Hp} (l : Le H H') : ∀ (ds : List PyData) (vs : List V), DpAll K H vs ds → DpAll K H' vs ds
  | [], _, h => by cases h; exact .nil
  | d :: ds, _, h => by
    cases h with
    | cons a b => exact .cons (dp_le l d _ a) (dpAll_le l ds _ b)
end
instance : Py PyData := ⟨fun W H v d => Dp W.K H v d, fun l h => dp_le l _ _ h⟩

section
variable {α β γ δ : Type} [Py α] [Py β] [Py γ] [Py δ] {W : Wd} {M M' N : List Addr} {σ σ' : L2.St} {H H1 H2 H' : Hp} {p a : Addr} {o : HO} {v : V} {x : α} {y : β} {i k : Nat} {te ta tb tc : TE} {t u : TT} {tr : TA}
theorem Rep.le (h : Rep W M H v x) (l : Le (cut W M H) (cut W M' H')) : Rep W M' H' v x := Py.mono l h
theorem Sl.le (h : Sl W M σ H i x) (l : Le (cut W M H) (cut W M' H')) : Sl W M' σ H' i x := let ⟨v, hv, r⟩ := h; ⟨v, hv, r.le l⟩
theorem ev_dat {α : Type} [PyD α] {x : α} (h : Ev W M te σ H x) : Ev W M te σ H (PyD.dat x) := fun H1 e ok Q q => h H1 e ok Q fun v H2 e2 r => q v H2 e2 (PyD.dp (W := W) (H := cut W M H2) r)

/-! ### items -/
theorem ev_ixL {xs : List α} {n : Int} (ha : Ev W M ta σ H xs) (hb : Ev W M tb σ H n) (hx : atI xs n = some x) : Ev W M (tOp (rIxL W.K) ta tb) σ H x := fun H1 e ok Q q =>
  ha H1 e ok _ fun v H2 e2 r => hb H2 (e.trans e2) (ok.ex e2) _ fun u H3 e3 r3 => by
    obtain ⟨a, vs, ev, hh, _, _, pp⟩ := (r.up e3).lst
    obtain ⟨w, hw, rw_⟩ := Pd.at pp hx
    exact ⟨a, vs, n, w, ev, r3, SqL.of hh, hw, q _ H3 (e2.trans e3) rw_⟩
theorem ev_ixT {xs : Tup α} {n : Int} (ha : Ev W M ta σ H xs) (hb : Ev W M tb σ H n) (hx : atI xs.l n = some x) : Ev W M (tOp (rIxT W.K) ta tb) σ H x := fun H1 e ok Q q =>
  ha H1 e ok _ fun v H2 e2 r => hb H2 (e.trans e2) (ok.ex e2) _ fun u H3 e3 r3 => by
    obtain ⟨a, vs, ev, hh, _, _, pp⟩ := (r.up e3).tup
    obtain ⟨w, hw, rw_⟩ := Pd.at pp hx
    exact ⟨a, vs, n, w, ev, r3, .inl hh, hw, q _ H3 (e2.trans e3) rw_⟩
theorem ev_fst {x : α × β} (ha : Ev W M ta σ H x) : Ev W M (tOp (rIxT W.K) ta (tC (.int 0))) σ H x.1 := fun H1 e ok Q q =>
  ha H1 e ok _ fun v H2 e2 r => by
    obtain ⟨a, v1, v2, ev, hh, _, _, r1, r2⟩ := r.pair
    exact ⟨a, _, 0, v1, ev, rfl, .inl hh, rfl, q _ H2 e2 r1⟩
theorem ev_snd {x : α × β} (ha : Ev W M ta σ H x) : Ev W M (tOp (rIxT W.K) ta (tC (.int 1))) σ H x.2 := fun H1 e ok Q q =>
  ha H1 e ok _ fun v H2 e2 r => by
    obtain ⟨a, v1, v2, ev, hh, _, _, r1, r2⟩ := r.pair
    exact ⟨a, _, 1, v2, ev, rfl, .inl hh, rfl, q _ H2 e2 r2⟩
theorem ev_ixS {z : Str} {n : Int} {c : Nat} (ha : Ev W M ta σ H z) (hb : Ev W M tb σ H n) (hl : z.length ≤ 1000000) (hx : atI z.cps.toList n = some c) : Ev W M (tOp rIxS ta tb) σ H (⟨#[c]⟩ : Str) := fun H1 e ok Q q =>
  ha H1 e ok _ fun v H2 e2 r => hb H2 (e.trans e2) (ok.ex e2) _ fun u H3 e3 r3 => ⟨z, n, c, r, r3, sz hl, hx, q _ H3 (e2.trans e3) rep_str⟩
/-- the item at a drawn place -/
theorem evr_ixL {xs : List α} {P : Int → Prop} {R : α → Prop} (ha : Ev W M ta σ H xs) (hb : EvR W M tb σ H P) (hx : ∀ n, P n → ∃ x, atI xs n = some x ∧ R x) : EvR W M (tOp (rIxL W.K) ta tb) σ H R := fun H1 e ok Q q =>
  ha H1 e ok _ fun v H2 e2 r => hb H2 (e.trans e2) (ok.ex e2) _ fun u n H3 pn e3 r3 => by
    obtain ⟨x, hx, hR⟩ := hx n pn
    obtain ⟨a, vs, ev, hh, _, _, pp⟩ := (r.up e3).lst
    obtain ⟨w, hw, rw_⟩ := Pd.at pp hx
    exact ⟨a, vs, n, w, ev, r3, SqL.of hh, hw, q _ x H3 hR (e2.trans e3) rw_⟩
theorem evr_ixS {z : Str} {P : Int → Prop} {R : Str → Prop} (ha : Ev W M ta σ H z) (hb : EvR W M tb σ H P) (hl : z.length ≤ 1000000) (hx : ∀ n, P n → ∃ c, atI z.cps.toList n = some c ∧ R ⟨#[c]⟩) : EvR W M (tOp rIxS ta tb) σ H R := fun H1 e ok Q q =>
  ha H1 e ok _ fun v H2 e2 r => hb H2 (e.trans e2) (ok.ex e2) _ fun u n H3 pn e3 r3 => by
    obtain ⟨c, hc, hR⟩ := hx n pn
    exact ⟨z, n, c, r, r3, sz hl, hc, q _ _ H3 hR (e2.trans e3) rep_str⟩

/-! ### slices -/
theorem eo_none : Eo W M tNoPart σ H none := fun H1 _ _ Q q => q H1 Ex.refl
theorem eo_some {n : Int} (h : Ev W M te σ H n) : Eo W M (tPart te) σ H (some n) := fun H1 e ok Q q => h H1 e ok _ fun v H2 e2 r => ⟨n, r, q H2 e2⟩
theorem ev_slL {xs : List α} {tl th : TO} {lo hi : Option Int} (ha : Ev W M ta σ H xs) (h1 : Eo W M tl σ H lo) (h2 : Eo W M th σ H hi) : Ev W M (tSl (rSlL W.K) ta tl th) σ H (cutG xs lo hi) := fun H1 e ok Q q =>
  ha H1 e ok _ fun v H2 e2 r => h1 H2 (e.trans e2) (ok.ex e2) _ fun H3 e3 => h2 H3 ((e.trans e2).trans e3) ((ok.ex e2).ex e3) _ fun H4 e4 => by
    obtain ⟨a, vs, ev, hh, _, _, pp⟩ := (r.up (e3.trans e4)).lst
    refine ⟨a, vs, ev, SqL.of hh, fun l hl => q _ _ ((e2.trans e3).trans (e4.trans (Ex.new hl))) ?_⟩
    have ok4 := ((ok.ex e2).ex e3).ex e4
    exact rep_lst upd_same (ok4.new_b hl) (ok4.new_M hl) (Pd.mono (Pd.cut pp lo hi) fun _ _ r => r.up (Ex.new hl))
/-- a slice of a text, as the library says it -/
theorem ev_slS {z : Str} {tl th : TO} {lo hi : Option Int} (ha : Ev W M ta σ H z) (h1 : Eo W M tl σ H lo) (h2 : Eo W M th σ H hi) (hz : z.length ≤ 1000000) :
    Ev W M (tSl (fun x lo hi H Q => ∃ z, x = .str z ∧ z.length ≤ sizeLine ∧ Q (.str (cutS z lo hi)) H) ta tl th) σ H (cutS z lo hi) := fun H1 e ok Q q =>
  ha H1 e ok _ fun v H2 e2 r => h1 H2 (e.trans e2) (ok.ex e2) _ fun H3 e3 => h2 H3 ((e.trans e2).trans e3) ((ok.ex e2).ex e3) _ fun H4 e4 => ⟨z, r, sz hz, q _ H4 ((e2.trans e3).trans e4) rep_str⟩
theorem ev_slT {xs : Tup α} {tl th : TO} {lo hi : Option Int} (ha : Ev W M ta σ H xs) (h1 : Eo W M tl σ H lo) (h2 : Eo W M th σ H hi) : Ev W M (tSl (rSlA W.K) ta tl th) σ H (⟨cutG xs.l lo hi⟩ : Tup α) := fun H1 e ok Q q =>
  ha H1 e ok _ fun v H2 e2 r => h1 H2 (e.trans e2) (ok.ex e2) _ fun H3 e3 => h2 H3 ((e.trans e2).trans e3) ((ok.ex e2).ex e3) _ fun H4 e4 => by
    obtain ⟨a, vs, ev, hh, hb, hm, pp⟩ := (r.up (e3.trans e4)).tup
    subst ev
    refine ⟨a, vs, rfl, .inl hh, fun hw => q _ _ ((e2.trans e3).trans e4) (rep_tup (vs := vs) hh hb hm ?_), fun _ l hl => q _ _ ((e2.trans e3).trans (e4.trans (Ex.new hl))) ?_⟩
    · have hc := Pd.cut pp lo hi
      have e5 : cutV vs lo hi = vs := by
        unfold cutV
        rw [hw.1, hw.2]
        simp
      rw [e5] at hc
      exact hc
    · have ok4 := ((ok.ex e2).ex e3).ex e4
      exact rep_tup (.inl upd_same) (ok4.new_b hl) (ok4.new_M hl) (Pd.mono (Pd.cut pp lo hi) fun _ _ r => r.up (Ex.new hl))

/-! ### calls of built-ins -/
theorem ev_lenL {xs : List α} (ha : Ev W M ta σ H xs) : Ev W M (tCB (rLenS W.K) (tCons ta tNil)) σ H (xs.length : Int) := fun H1 e ok Q q =>
  ha H1 e ok _ fun v H2 e2 r => by
    obtain ⟨a, vs, ev, hh, _, _, pp⟩ := r.lst
    exact ⟨a, vs, by rw [ev], .inl (SqL.of hh), by rw [Pd.length pp]; exact q _ H2 e2 rep_int⟩
theorem ev_lenT {xs : Tup α} (ha : Ev W M ta σ H xs) : Ev W M (tCB (rLenS W.K) (tCons ta tNil)) σ H (xs.l.length : Int) := fun H1 e ok Q q =>
  ha H1 e ok _ fun v H2 e2 r => by
    obtain ⟨a, vs, ev, hh, _, _, pp⟩ := r.tup
    exact ⟨a, vs, by rw [ev], .inr (.inl hh), by rw [Pd.length pp]; exact q _ H2 e2 rep_int⟩
theorem ev_lenP {x : α × β} (ha : Ev W M ta σ H x) : Ev W M (tCB (rLenS W.K) (tCons ta tNil)) σ H (2 : Int) := fun H1 e ok Q q =>
  ha H1 e ok _ fun v H2 e2 r => by
    obtain ⟨a, v1, v2, ev, hh, _, _, r1, r2⟩ := r.pair
    exact ⟨a, [v1, v2], by rw [ev], .inr (.inl hh), q _ H2 e2 rep_int⟩
theorem ev_lenX {z : Str} (ha : Ev W M ta σ H z) (hl : z.length ≤ 1000000) : Ev W M (tCB rLenX (tCons ta tNil)) σ H (z.length : Int) := fun H1 e ok Q q =>
  ha H1 e ok _ fun v H2 e2 r => ⟨z, by rw [show v = .str z from r], sz hl, q _ H2 e2 rep_int⟩
theorem ev_list {xs : List α} (ha : Ev W M ta σ H xs) : Ev W M (tCB (rListOf W.K) (tCons ta tNil)) σ H xs := fun H1 e ok Q q =>
  ha H1 e ok _ fun v H2 e2 r => by
    obtain ⟨a, vs, ev, hh, _, _, pp⟩ := r.lst
    exact ⟨a, vs, by rw [ev], .inl (SqL.of hh), fun l hl => q _ _ (e2.trans (Ex.new hl)) (rep_lst upd_same ((ok.ex e2).new_b hl) ((ok.ex e2).new_M hl) (Pd.mono pp fun _ _ r => r.up (Ex.new hl)))⟩
theorem ev_listT {xs : Tup α} (ha : Ev W M ta σ H xs) : Ev W M (tCB (rListOf W.K) (tCons ta tNil)) σ H xs.l := fun H1 e ok Q q =>
  ha H1 e ok _ fun v H2 e2 r => by
    obtain ⟨a, vs, ev, hh, _, _, pp⟩ := r.tup
    exact ⟨a, vs, by rw [ev], .inr (.inl hh), fun l hl => q _ _ (e2.trans (Ex.new hl)) (rep_lst upd_same ((ok.ex e2).new_b hl) ((ok.ex e2).new_M hl) (Pd.mono pp fun _ _ r => r.up (Ex.new hl)))⟩
theorem ev_tuple {xs : List α} (ha : Ev W M ta σ H xs) : Ev W M (tCB (rTupOf W.K) (tCons ta tNil)) σ H (⟨xs⟩ : Tup α) := fun H1 e ok Q q =>
  ha H1 e ok _ fun v H2 e2 r => by
    obtain ⟨a, vs, ev, hh, _, _, pp⟩ := r.lst
    exact ⟨a, vs, by rw [ev], .inl ⟨SqL.of hh, fun l hl => q _ _ (e2.trans (Ex.new hl)) (rep_tup (.inl upd_same) ((ok.ex e2).new_b hl) ((ok.ex e2).new_M hl) (Pd.mono pp fun _ _ r => r.up (Ex.new hl)))⟩⟩
theorem ev_tupleT {xs : Tup α} (ha : Ev W M ta σ H xs) : Ev W M (tCB (rTupOf W.K) (tCons ta tNil)) σ H xs := fun H1 e ok Q q =>
  ha H1 e ok _ fun v H2 e2 r => by
    obtain ⟨a, vs, ev, hh, hb, hm, pp⟩ := r.tup
    subst ev
    exact ⟨a, vs, rfl, .inr ⟨.inl hh, q _ _ e2 (rep_tup hh hb hm pp)⟩⟩
theorem ev_abs {n : Int} (ha : Ev W M ta σ H n) : Ev W M (tCB rAbs (tCons ta tNil)) σ H (if n < 0 then -n else n) := fun H1 e ok Q q =>
  ha H1 e ok _ fun v H2 e2 r => ⟨n, by rw [show v = .int n from r], q _ H2 e2 rep_int⟩
theorem ev_intI {n : Int} (ha : Ev W M ta σ H n) : Ev W M (tCB rInt (tCons ta tNil)) σ H n := fun H1 e ok Q q =>
  ha H1 e ok _ fun v H2 e2 r => .inl ⟨n, by rw [show v = .int n from r], q _ H2 e2 rep_int⟩
theorem ev_intB {b : Bool} (ha : Ev W M ta σ H b) : Ev W M (tCB rInt (tCons ta tNil)) σ H (if b then 1 else 0 : Int) := fun H1 e ok Q q =>
  ha H1 e ok _ fun v H2 e2 r => .inr ⟨b, by rw [show v = .bl b from r], q _ H2 e2 rep_int⟩
theorem ev_strI {n : Int} (ha : Ev W M ta σ H n) (hn : n.natAbs.log2 < 1920) : Ev W M (tCB rStrI (tCons ta tNil)) σ H (Str.ofString (toString n)) := fun H1 e ok Q q =>
  ha H1 e ok _ fun v H2 e2 r => ⟨n, by rw [show v = .int n from r], hn, q _ H2 e2 rep_str⟩
theorem ev_max2 {m n : Int} (ha : Ev W M ta σ H m) (hb : Ev W M tb σ H n) : Ev W M (tCB rMax2 (tCons ta (tCons tb tNil))) σ H (if n > m then n else m) := fun H1 e ok Q q =>
  ha H1 e ok _ fun v H2 e2 r => hb H2 (e.trans e2) (ok.ex e2) _ fun u H3 e3 r3 => ⟨m, n, by rw [show v = .int m from r, show u = .int n from r3], q _ H3 (e2.trans e3) rep_int⟩
theorem ev_min2 {m n : Int} (ha : Ev W M ta σ H m) (hb : Ev W M tb σ H n) : Ev W M (tCB rMin2 (tCons ta (tCons tb tNil))) σ H (if n < m then n else m) := fun H1 e ok Q q =>
  ha H1 e ok _ fun v H2 e2 r => hb H2 (e.trans e2) (ok.ex e2) _ fun u H3 e3 r3 => ⟨m, n, by rw [show v = .int m from r, show u = .int n from r3], q _ H3 (e2.trans e3) rep_int⟩
theorem ev_sum {xs : List Int} (ha : Ev W M ta σ H xs) : Ev W M (tCB (rSum W.K) (tCons ta tNil)) σ H xs.sum := fun H1 e ok Q q =>
  ha H1 e ok _ fun v H2 e2 r => by
    obtain ⟨a, vs, ev, hh, _, _, pp⟩ := r.lst
    refine ⟨a, xs, by rw [ev], SqL.of ?_, q _ H2 e2 rep_int⟩
    rw [hh, paired_toV pp]; rfl
theorem ev_all {xs : List Bool} (ha : Ev W M ta σ H xs) : Ev W M (tCB (rAll W.K) (tCons ta tNil)) σ H (xs.all id) := fun H1 e ok Q q =>
  ha H1 e ok _ fun v H2 e2 r => by
    obtain ⟨a, vs, ev, hh, _, _, pp⟩ := r.lst
    refine ⟨a, xs, by rw [ev], SqL.of ?_, q _ H2 e2 rep_bl⟩
    rw [hh, paired_toV pp]; rfl
theorem ev_any {xs : List Bool} (ha : Ev W M ta σ H xs) : Ev W M (tCB (rAny W.K) (tCons ta tNil)) σ H (xs.any id) := fun H1 e ok Q q =>
  ha H1 e ok _ fun v H2 e2 r => by
    obtain ⟨a, vs, ev, hh, _, _, pp⟩ := r.lst
    refine ⟨a, xs, by rw [ev], SqL.of ?_, q _ H2 e2 rep_bl⟩
    rw [hh, paired_toV pp]; rfl
theorem ev_count {α : Type} [DecidableEq α] [PyD α] {xs : List α} {x : α} (ha : Ev W M ta σ H xs) (hb : Ev W M tb σ H x) (h : PyD.dep α ≤ 64 := by decide) : Ev W M (tBM W.K "list" (rCountE W.K) ta (tCons tb tNil)) σ H (xs.count x : Int) := fun H1 e ok Q q =>
  ha H1 e ok _ fun v H2 e2 r => by
    obtain ⟨a, vs, ev, hh, _, _, pp⟩ := r.lst
    subst ev
    refine ⟨.inl ⟨rfl, _, SqL.of hh⟩, hb H2 (e.trans e2) (ok.ex e2) _ fun u H3 e3 r3 => ?_⟩
    obtain ⟨a', vs', ev', hh', _, _, pp'⟩ := (r.up e3).lst
    cases ev'
    exact ⟨a, u, _, _, vs', rfl, rfl, r3.dp, SqL.of hh', Rep.dpAll pp', Nat.le_trans (depthAll_le xs) h, by rw [count_dat]; exact q _ H3 (e2.trans e3) rep_int⟩

/-! ### displays -/
theorem ea_nil : Ea W M tNil σ H ([] : List α) := fun H1 _ _ Q q => q _ H1 Ex.refl .nil
theorem ea_cons {xs : List α} (ha : Ev W M ta σ H x) (hr : Ea W M tr σ H xs) : Ea W M (tCons ta tr) σ H (x :: xs) := fun H1 e ok Q q =>
  ha H1 e ok _ fun v H2 e2 r => hr H2 (e.trans e2) (ok.ex e2) _ fun vs H3 e3 pp => q _ H3 (e2.trans e3) (.cons (r.up e3) pp)
theorem ea_star {xs ys : List α} (ha : Ev W M ta σ H xs) (hr : Ea W M tr σ H ys) : Ea W M (tStar W.K ta tr) σ H (xs ++ ys) := fun H1 e ok Q q =>
  ha H1 e ok _ fun v H2 e2 r => by
    obtain ⟨a, vs, ev, hh, _, _, pp⟩ := r.lst
    exact ⟨a, vs, ev, .inr (SqL.of hh), hr H2 (e.trans e2) (ok.ex e2) _ fun us H3 e3 pp2 => q _ H3 (e2.trans e3) (Pd.append (Pd.mono pp fun _ _ r => r.up e3) pp2)⟩
theorem ea_starT {xs : Tup α} {ys : List α} (ha : Ev W M ta σ H xs) (hr : Ea W M tr σ H ys) : Ea W M (tStar W.K ta tr) σ H (xs.l ++ ys) := fun H1 e ok Q q =>
  ha H1 e ok _ fun v H2 e2 r => by
    obtain ⟨a, vs, ev, hh, _, _, pp⟩ := r.tup
    exact ⟨a, vs, ev, .inl (.inl hh), hr H2 (e.trans e2) (ok.ex e2) _ fun us H3 e3 pp2 => q _ H3 (e2.trans e3) (Pd.append (Pd.mono pp fun _ _ r => r.up e3) pp2)⟩
theorem ev_lst {xs : List α} (h : Ea W M tr σ H xs) (hl : xs.length ≤ 1000000) : Ev W M (tLst tr) σ H xs := fun H1 e ok Q q =>
  h H1 e ok _ fun vs H2 e2 pp => ⟨by rw [Pd.length pp]; exact sz hl, fun l hp => q _ _ (e2.trans (Ex.new hp)) (rep_lst upd_same ((ok.ex e2).new_b hp) ((ok.ex e2).new_M hp) (Pd.mono pp fun _ _ r => r.up (Ex.new hp)))⟩
theorem ev_tup {xs : List α} (h : Ea W M tr σ H xs) (hl : xs.length ≤ 1000000) : Ev W M (tTup tr) σ H (⟨xs⟩ : Tup α) := fun H1 e ok Q q =>
  h H1 e ok _ fun vs H2 e2 pp => ⟨by rw [Pd.length pp]; exact sz hl, fun l hp => q _ _ (e2.trans (Ex.new hp)) (rep_tup (.inl upd_same) ((ok.ex e2).new_b hp) ((ok.ex e2).new_M hp) (Pd.mono pp fun _ _ r => r.up (Ex.new hp)))⟩
theorem ev_pair (ha : Ev W M ta σ H x) (hb : Ev W M tb σ H y) : Ev W M (tTup (tCons ta (tCons tb tNil))) σ H (x, y) := fun H1 e ok Q q =>
  ha H1 e ok _ fun v H2 e2 r => hb H2 (e.trans e2) (ok.ex e2) _ fun u H3 e3 r3 =>
    ⟨by show 2 ≤ sizeLine; decide, fun l hp => q _ _ ((e2.trans e3).trans (Ex.new hp)) (rep_pair (.inl upd_same) (((ok.ex e2).ex e3).new_b hp) (((ok.ex e2).ex e3).new_M hp) ((r.up e3).up (Ex.new hp)) (r3.up (Ex.new hp)))⟩
theorem evr_pair {P : α → Prop} {R : β → Prop} (ha : EvR W M ta σ H P) (hb : EvR W M tb σ H R) : EvR W M (tTup (tCons ta (tCons tb tNil))) σ H (fun z : α × β => P z.1 ∧ R z.2) := fun H1 e ok Q q =>
  ha H1 e ok _ fun v x H2 px e2 r => hb H2 (e.trans e2) (ok.ex e2) _ fun u y H3 py e3 r3 =>
    ⟨by show 2 ≤ sizeLine; decide, fun l hp => q _ (x, y) _ ⟨px, py⟩ ((e2.trans e3).trans (Ex.new hp)) (rep_pair (.inl upd_same) (((ok.ex e2).ex e3).new_b hp) (((ok.ex e2).ex e3).new_M hp) ((r.up e3).up (Ex.new hp)) (r3.up (Ex.new hp)))⟩

/-! ### texts, lists, tuples put together -/
theorem ev_addS {z w : Str} (ha : Ev W M ta σ H z) (hb : Ev W M tb σ H w) (hl : z.length + w.length ≤ 1000000) : Ev W M (tOp (fun x y H Q => ∃ i j : Str, x = .str i ∧ y = .str j ∧ i.length + j.length ≤ sizeLine ∧ Q (.str (i ++ j)) H) ta tb) σ H (z ++ w) := fun H1 e ok Q q =>
  ha H1 e ok _ fun v H2 e2 r => hb H2 (e.trans e2) (ok.ex e2) _ fun u H3 e3 r3 => ⟨z, w, r, r3, sz hl, q _ H3 (e2.trans e3) rep_str⟩
theorem ev_cat {xs ys : List α} (ha : Ev W M ta σ H xs) (hb : Ev W M tb σ H ys) (hl : xs.length + ys.length ≤ 1000000) : Ev W M (tOp rCat ta tb) σ H (xs ++ ys) := fun H1 e ok Q q =>
  ha H1 e ok _ fun v H2 e2 r => hb H2 (e.trans e2) (ok.ex e2) _ fun u H3 e3 r3 => by
    obtain ⟨a, vs, ev, hh, _, _, pp⟩ := (r.up e3).lst
    obtain ⟨a', vs', ev', hh', _, _, pp'⟩ := r3.lst
    have ok3 := (ok.ex e2).ex e3
    exact ⟨a, a', vs, vs', ev, ev', hh, hh', by rw [Pd.length pp, Pd.length pp']; exact sz hl, fun l hp => q _ _ ((e2.trans e3).trans (Ex.new hp))
      (rep_lst upd_same (ok3.new_b hp) (ok3.new_M hp) (Pd.mono (Pd.append pp pp') fun _ _ r => r.up (Ex.new hp)))⟩
theorem ev_catT {xs ys : Tup α} (ha : Ev W M ta σ H xs) (hb : Ev W M tb σ H ys) (hl : xs.l.length + ys.l.length ≤ 1000000) : Ev W M (tOp (rCatA W.K) ta tb) σ H (⟨xs.l ++ ys.l⟩ : Tup α) := fun H1 e ok Q q =>
  ha H1 e ok _ fun v H2 e2 r => hb H2 (e.trans e2) (ok.ex e2) _ fun u H3 e3 r3 => by
    obtain ⟨a, vs, ev, hh, hb, hm, pp⟩ := (r.up e3).tup
    obtain ⟨a', vs', ev', hh', hb', hm', pp'⟩ := r3.tup
    subst ev; subst ev'
    have ok3 := (ok.ex e2).ex e3
    refine ⟨a, a', vs, vs', rfl, rfl, .inl hh, .inl hh', by rw [Pd.length pp, Pd.length pp']; exact sz hl, fun z => ?_, fun _ z => ?_, fun _ _ l hp => ?_⟩
    · subst z
      have : xs.l = [] := by cases h : xs.l with
        | nil => rfl
        | cons _ _ => rw [h] at pp; cases pp
      exact q _ _ (e2.trans e3) (rep_tup hh' hb' hm' (by rw [this]; exact pp'))
    · subst z
      have : ys.l = [] := by cases h : ys.l with
        | nil => rfl
        | cons _ _ => rw [h] at pp'; cases pp'
      exact q _ _ (e2.trans e3) (rep_tup hh hb hm (by rw [this, List.append_nil]; exact pp))
    · exact q _ _ ((e2.trans e3).trans (Ex.new hp)) (rep_tup (.inl upd_same) (ok3.new_b hp) (ok3.new_M hp) (Pd.mono (Pd.append pp pp') fun _ _ r => r.up (Ex.new hp)))
end
end RG
namespace RG
open PySem PySem.Spec PyProof.Rows L2 StX RZ

/-! ### what a loop walks -/
structure Wk {α : Type} [Py α] (W : Wd) (J : It) (S : List Addr → Hp → Prop) (xs : List α) : Prop where
  st : ∀ {M M' H H'}, Le (cut W M H) (cut W M' H') → S M H → S M' H'
  go : ∀ {i M H}, S M H → i < xs.length → J.go i H
  stop : ∀ {i M H}, S M H → xs.length ≤ i → J.stop i H
  yld : ∀ {i M H v H'}, S M H → Ok W M H → J.yld i H v H' → i < xs.length → ∃ x, xs[i]? = some x ∧ Ex W [] H H' ∧ Rep W M H' v x
def Ei {α : Type} [Py α] (W : Wd) (M : List Addr) (wi : TI) (σ : L2.St) (H : Hp) (xs : List α) : Prop :=
  ∀ H1, Ex W [] H H1 → Ok W M H1 → ∀ R : It → Hp → Prop, (∀ J S H2, Ex W [] H1 H2 → Wk W J S xs → S M H2 → R J H2) → wi σ H1 R

section
variable {α β γ : Type} [Py α] [Py β] [Py γ] {W : Wd} {M M' N : List Addr} {σ σ' : L2.St} {H H1 H2 H' : Hp} {te ta tb tl : TE} {wi : TI}
theorem ei_list {xs : List α} (h : Ev W M tl σ H xs) : Ei W M (iList W.K tl) σ H xs := fun H1 e ok R q =>
  h H1 e ok _ fun v H2 e2 r => by
    obtain ⟨a, vs, ev, hh, _, _, _⟩ := r.lst
    subst ev
    refine ⟨a, rfl, ⟨vs, SqL.of hh⟩, q (Itl W.K a) (fun M H => Rep W M H (.ref a) xs) H2 e2 ⟨fun l r => r.le l, fun {i M H} r hi => ?_, fun {i M H} r hi => ?_, fun {i M H v H'} r ok y hi => ?_⟩ r⟩
    · obtain ⟨b, us, e, h1, _, _, pp⟩ := r.lst
      cases e
      obtain ⟨x, hx⟩ : ∃ x, xs[i]? = some x := ⟨_, List.getElem?_eq_getElem hi⟩
      obtain ⟨u, hu, _⟩ := Pd.get pp hx
      exact ⟨us, u, SqL.of h1, hu⟩
    · obtain ⟨b, us, e, h1, _, _, pp⟩ := r.lst
      cases e
      exact ⟨us, SqL.of h1, by rw [Pd.length pp]; exact hi⟩
    · obtain ⟨b, us, e, h1, _, _, pp⟩ := r.lst
      cases e
      obtain ⟨rfl, y⟩ := y
      obtain ⟨x, hx, rx⟩ := Pd.getL pp (y us (SqL.of h1))
      exact ⟨x, hx, Ex.refl, rx⟩
theorem ei_tup {xs : Tup α} (h : Ev W M tl σ H xs) : Ei W M (iTup W.K tl) σ H xs.l := fun H1 e ok R q =>
  h H1 e ok _ fun v H2 e2 r => by
    obtain ⟨a, vs, ev, hh, _, _, _⟩ := r.tup
    subst ev
    refine ⟨a, rfl, ⟨vs, .inl hh⟩, q (Itt W.K a) (fun M H => Rep W M H (.ref a) xs) H2 e2 ⟨fun l r => r.le l, fun {i M H} r hi => ?_, fun {i M H} r hi => ?_, fun {i M H v H'} r ok y hi => ?_⟩ r⟩
    · obtain ⟨b, us, e, h1, _, _, pp⟩ := r.tup
      cases e
      obtain ⟨x, hx⟩ : ∃ x, xs.l[i]? = some x := ⟨_, List.getElem?_eq_getElem hi⟩
      obtain ⟨u, hu, _⟩ := Pd.get pp hx
      exact ⟨us, u, .inl h1, hu⟩
    · obtain ⟨b, us, e, h1, _, _, pp⟩ := r.tup
      cases e
      exact ⟨us, .inl h1, by rw [Pd.length pp]; exact hi⟩
    · obtain ⟨b, us, e, h1, _, _, pp⟩ := r.tup
      cases e
      obtain ⟨rfl, y⟩ := y
      obtain ⟨x, hx, rx⟩ := Pd.getL pp (y us (.inl h1))
      exact ⟨x, hx, Ex.refl, rx⟩
/-- 0, 1, .. below n -/
def rng (n : Int) : List Int := (List.range n.toNat).map fun i : Nat => (i : Int)
theorem rng_len {n : Int} : (rng n).length = n.toNat := by unfold rng; rw [List.length_map, List.length_range]
theorem rng_at {n : Int} {i : Nat} (h : i < n.toNat) : (rng n)[i]? = some (i : Int) := by
  unfold rng
  rw [List.getElem?_map, List.getElem?_range h]
  rfl
theorem rng_mem {n k : Int} : k ∈ rng n ↔ 0 ≤ k ∧ k < n := by
  unfold rng
  rw [List.mem_map]
  constructor
  · rintro ⟨i, hi, rfl⟩
    rw [List.mem_range] at hi
    omega
  · rintro ⟨h0, h1⟩
    exact ⟨k.toNat, List.mem_range.mpr (by omega), by omega⟩
theorem ei_range {n : Int} (h : Ev W M te σ H n) (hn : n < 4000000) (h0 : -4000000 ≤ n) : Ei W M (iRng1 (tCons te tNil)) σ H (rng n) := fun H1 e ok R q =>
  h H1 e ok _ fun v H2 e2 r => by
    refine ⟨n, by rw [show v = .int n from r], by omega, by omega, q (Itr 0 n.toNat) (fun _ _ => True) H2 e2 ⟨fun _ _ => trivial, fun {i M H} _ hi => ?_, fun {i M H} _ hi => ?_, fun {i M H v H'} _ ok y hi => ?_⟩ trivial⟩
    · rw [rng_len] at hi; exact hi
    · rw [rng_len] at hi; exact hi
    · rw [rng_len] at hi
      obtain ⟨rfl, rfl⟩ := y
      exact ⟨(i : Int), rng_at hi, Ex.refl, by rw [Int.zero_add]; exact rep_int⟩
/-- the signs of a text, each a text -/
def signs (z : Str) : List Str := z.cps.toList.map fun c => ⟨#[c]⟩
theorem signs_len {z : Str} : (signs z).length = z.cps.size := by unfold signs; rw [List.length_map, Array.length_toList]
theorem ei_str {z : Str} (h : Ev W M te σ H z) : Ei W M (iStr te) σ H (signs z) := fun H1 e ok R q =>
  h H1 e ok _ fun v H2 e2 r => by
    refine ⟨z, r, q (Its z) (fun _ _ => True) H2 e2 ⟨fun _ _ => trivial, fun {i M H} _ hi => ?_, fun {i M H} _ hi => ?_, fun {i M H v H'} _ ok y hi => ?_⟩ trivial⟩
    · rw [signs_len] at hi; exact hi
    · rw [signs_len] at hi; exact hi
    · obtain ⟨rfl, c, hc, rfl⟩ := y
      refine ⟨⟨#[c]⟩, ?_, Ex.refl, rep_str⟩
      unfold signs
      rw [List.getElem?_map, Array.getElem?_toList, hc]
      rfl
/-- each item with its place -/
def enum (xs : List α) : List (Int × α) := (List.range xs.length).zipWith (fun (i : Nat) x => ((i : Int), x)) xs
theorem enum_len {xs : List α} : (enum xs).length = xs.length := by unfold enum; simp
theorem enum_at {xs : List α} {i : Nat} {x : α} (h : xs[i]? = some x) : (enum xs)[i]? = some ((i : Int), x) := by
  have hi : i < xs.length := (List.getElem?_eq_some_iff.mp h).1
  unfold enum
  rw [List.getElem?_zipWith, List.getElem?_range hi, h]
theorem ei_enum {xs : List α} (h : Ev W M tl σ H xs) : Ei W M (iEnum W.K (tCons tl tNil)) σ H (enum xs) := fun H1 e ok R q =>
  h H1 e ok _ fun v H2 e2 r => by
    obtain ⟨a, vs, ev, hh, _, _, _⟩ := r.lst
    subst ev
    refine ⟨a, vs, rfl, SqL.of hh, q (Ite W.K a) (fun M H => Rep W M H (.ref a) xs) H2 e2 ⟨fun l r => r.le l, fun {i M H} r hi => ?_, fun {i M H} r hi => ?_, fun {i M H v H'} r ok y hi => ?_⟩ r⟩
    · obtain ⟨b, us, e, h1, _, _, pp⟩ := r.lst
      cases e
      rw [enum_len] at hi
      obtain ⟨x, hx⟩ : ∃ x, xs[i]? = some x := ⟨_, List.getElem?_eq_getElem hi⟩
      obtain ⟨u, hu, _⟩ := Pd.get pp hx
      exact ⟨us, u, SqL.of h1, hu⟩
    · obtain ⟨b, us, e, h1, _, _, pp⟩ := r.lst
      cases e
      rw [enum_len] at hi
      exact ⟨us, SqL.of h1, by rw [Pd.length pp]; exact hi⟩
    · obtain ⟨b, us, e, h1, _, _, pp⟩ := r.lst
      cases e
      obtain ⟨T, w, rfl, hT, rfl, y⟩ := y
      obtain ⟨x, hx, rx⟩ := Pd.getL pp (y us (SqL.of h1))
      exact ⟨_, enum_at hx, Ex.new hT, rep_pair (.inl upd_same) (ok.new_b hT) (ok.new_M hT) rep_int (rx.up (Ex.new hT))⟩
theorem zip_at {xs : List α} {ys : List β} {i : Nat} {x : α} {y : β} (h : xs[i]? = some x) (h2 : ys[i]? = some y) : (xs.zip ys)[i]? = some (x, y) := by
  rw [List.getElem?_zip_eq_some]; exact ⟨h, h2⟩
theorem ei_zip {xs : List α} {ys : List β} (h : Ev W M ta σ H xs) (h2 : Ev W M tb σ H ys) : Ei W M (iZip W.K (tCons ta (tCons tb tNil))) σ H (xs.zip ys) := fun H1 e ok R q =>
  h H1 e ok _ fun v H2 e2 r => h2 H2 (e.trans e2) (ok.ex e2) _ fun u H3 e3 r3 => by
    have r := r.up e3
    obtain ⟨a, vs, ev, hh, _, _, _⟩ := r.lst
    obtain ⟨b, us, eu, hh2, _, _, _⟩ := r3.lst
    subst ev; subst eu
    refine ⟨a, b, vs, us, rfl, SqL.of hh, SqL.of hh2, q (Itz W.K a b) (fun M H => Rep W M H (.ref a) xs ∧ Rep W M H (.ref b) ys) H3 (e2.trans e3) ⟨fun l r => ⟨r.1.le l, r.2.le l⟩, fun {i M H} r hi => ?_, fun {i M H} r hi => ?_, fun {i M H v H'} r ok y hi => ?_⟩ ⟨r, r3⟩⟩
    · obtain ⟨r1, r2⟩ := r
      obtain ⟨c, ws, e, h1, _, _, pp⟩ := r1.lst
      cases e
      obtain ⟨c, ws2, e, h2, _, _, pp2⟩ := r2.lst
      cases e
      rw [List.length_zip] at hi
      obtain ⟨w1, hw1, _⟩ := Pd.get pp (List.getElem?_eq_getElem (show i < xs.length by omega))
      obtain ⟨w2, hw2, _⟩ := Pd.get pp2 (List.getElem?_eq_getElem (show i < ys.length by omega))
      exact ⟨ws, ws2, w1, w2, SqL.of h1, SqL.of h2, hw1, hw2⟩
    · obtain ⟨r1, r2⟩ := r
      obtain ⟨c, ws, e, h1, _, _, pp⟩ := r1.lst
      cases e
      obtain ⟨c, ws2, e, h2, _, _, pp2⟩ := r2.lst
      cases e
      rw [List.length_zip] at hi
      refine ⟨ws, ws2, SqL.of h1, SqL.of h2, ?_⟩
      rw [Pd.length pp, Pd.length pp2]
      omega
    · obtain ⟨r1, r2⟩ := r
      obtain ⟨c, ws, e, h1, _, _, pp⟩ := r1.lst
      cases e
      obtain ⟨c, ws2, e, h2, _, _, pp2⟩ := r2.lst
      cases e
      obtain ⟨T, w1, w2, rfl, hT, rfl, y1, y2⟩ := y
      obtain ⟨x, hx, rx⟩ := Pd.getL pp (y1 ws (SqL.of h1))
      obtain ⟨z, hz, rz⟩ := Pd.getL pp2 (y2 ws2 (SqL.of h2))
      exact ⟨_, zip_at hx hz, Ex.new hT, rep_pair (.inl upd_same) (ok.new_b hT) (ok.new_M hT) (rx.up (Ex.new hT)) (rz.up (Ex.new hT))⟩
theorem ei_zipT {xs : Tup α} {ys : Tup β} (h : Ev W M ta σ H xs) (h2 : Ev W M tb σ H ys) : Ei W M (iZipA W.K (tCons ta (tCons tb tNil))) σ H (xs.l.zip ys.l) := fun H1 e ok R q =>
  h H1 e ok _ fun v H2 e2 r => h2 H2 (e.trans e2) (ok.ex e2) _ fun u H3 e3 r3 => by
    have r := r.up e3
    obtain ⟨a, vs, ev, hh, _, _, _⟩ := r.tup
    obtain ⟨b, us, eu, hh2, _, _, _⟩ := r3.tup
    subst ev; subst eu
    refine ⟨a, b, vs, us, rfl, .inr ⟨.inl hh, .inl hh2, q (ItzT W.K a b) (fun M H => Rep W M H (.ref a) xs ∧ Rep W M H (.ref b) ys) H3 (e2.trans e3) ⟨fun l r => ⟨r.1.le l, r.2.le l⟩, fun {i M H} r hi => ?_, fun {i M H} r hi => ?_, fun {i M H v H'} r ok y hi => ?_⟩ ⟨r, r3⟩⟩⟩
    · obtain ⟨r1, r2⟩ := r
      obtain ⟨c, ws, e, h1, _, _, pp⟩ := r1.tup
      cases e
      obtain ⟨c, ws2, e, h2, _, _, pp2⟩ := r2.tup
      cases e
      rw [List.length_zip] at hi
      obtain ⟨w1, hw1, _⟩ := Pd.get pp (List.getElem?_eq_getElem (show i < xs.l.length by omega))
      obtain ⟨w2, hw2, _⟩ := Pd.get pp2 (List.getElem?_eq_getElem (show i < ys.l.length by omega))
      exact ⟨ws, ws2, w1, w2, .inl h1, .inl h2, hw1, hw2⟩
    · obtain ⟨r1, r2⟩ := r
      obtain ⟨c, ws, e, h1, _, _, pp⟩ := r1.tup
      cases e
      obtain ⟨c, ws2, e, h2, _, _, pp2⟩ := r2.tup
      cases e
      rw [List.length_zip] at hi
      refine ⟨ws, ws2, .inl h1, .inl h2, ?_⟩
      rw [Pd.length pp, Pd.length pp2]
      omega
    · obtain ⟨r1, r2⟩ := r
      obtain ⟨c, ws, e, h1, _, _, pp⟩ := r1.tup
      cases e
      obtain ⟨c, ws2, e, h2, _, _, pp2⟩ := r2.tup
      cases e
      obtain ⟨T, w1, w2, rfl, hT, rfl, y1, y2⟩ := y
      obtain ⟨x, hx, rx⟩ := Pd.getL pp (y1 ws (.inl h1))
      obtain ⟨z, hz, rz⟩ := Pd.getL pp2 (y2 ws2 (.inl h2))
      exact ⟨_, zip_at hx hz, Ex.new hT, rep_pair (.inl upd_same) (ok.new_b hT) (ok.new_M hT) (rx.up (Ex.new hT)) (rz.up (Ex.new hT))⟩
end

/-! ### targets -/
/-- what a target does with an item: the slots that it stores -/
def Tg {α : Type} [Py α] (W : Wd) (g : TG) (x : α) (f : V → L2.St → L2.St → Prop) : Prop :=
  ∀ M v σ H (K : L2.St → Hp → Prop), Rep W M H v x → (∀ σ2, f v σ σ2 → K σ2 H) → g v σ H K
section
variable {α β γ : Type} [Py α] [Py β] [Py γ] {W : Wd} {M M' N : List Addr} {σ σ' : L2.St} {H H1 H2 H' : Hp} {te ta tb tl : TE} {wi : TI} {g : TG} {tt : TT} {ts tb' : TS} {vs : List Nat} {D : Ends}
theorem wipe_set {k : Nat} {o : Option V} : ∀ {vs : List Nat} {σ : L2.St}, k ∈ vs → wipe (σ.set k o) vs = wipe σ vs
  | v :: vs, σ, h => by
    unfold wipe
    by_cases hk : k ∈ vs
    · rw [wipe_set hk]
    · have e : k = v := (List.mem_cons.mp h).resolve_right hk
      subst e
      clear h
      have : ∀ (vs : List Nat) (σ : L2.St), (wipe (σ.set k o) vs).set k none = (wipe σ vs).set k none := by
        intro vs
        induction vs with
        | nil => intro σ; show (σ.set k o).set k none = σ.set k none; rw [List.set_set]
        | cons u us ih =>
          intro σ
          show ((wipe (σ.set k o) us).set u none).set k none = ((wipe σ us).set u none).set k none
          by_cases hu : u = k
          · subst hu; rw [List.set_set, List.set_set]; exact ih σ
          · rw [List.set_comm _ _ hu, List.set_comm _ _ hu, ih σ]
      exact this vs σ
theorem wipe_wipe : ∀ {vs : List Nat} {σ : L2.St}, wipe (wipe σ vs) vs = wipe σ vs
  | [], _ => rfl
  | v :: vs, σ => by
    show wipe ((wipe σ vs).set v none) (v :: vs) = (wipe σ vs).set v none
    rw [wipe_set (List.mem_cons_self)]
    show (wipe (wipe σ vs) vs).set v none = _
    rw [wipe_wipe]

/-! ### for -/
theorem for_w {xs : List α} (ok : Ok W M H) (hi : Ei W M wi σ H xs) (P : Nat → L2.St → Hp → Prop) (h0 : ∀ H', Ex W [] H H' → P 0 σ H')
    (hs : ∀ i x v σ' H', xs[i]? = some x → P i σ' H' → Ok W M H' → ∀ H'', Ex W [] H' H'' → Rep W M H'' v x → ∀ N : L2.St → Hp → Prop, (∀ σ3 H3, P (i + 1) σ3 H3 → Ex W M H'' H3 → N σ3 H3) → g v σ' H'' fun σ2 H2 => ts { D with nx := N, ct := N, bk := D.nx } σ2 H2)
    (hd : ∀ σ' H', P xs.length σ' H' → Ok W M H' → D.nx σ' H') : tFor wi g ts D σ H := by
  refine hi H Ex.refl ok _ fun J S H1 e1 wk s1 => ?_
  refine ⟨fun i m σ' H' => m = xs.length - i ∧ i ≤ xs.length ∧ P i σ' H' ∧ Ok W M H' ∧ S M H', ⟨xs.length, by simp, Nat.zero_le _, h0 H1 e1, ok.ex e1, s1⟩, ?_⟩
  rintro i m σ' H' ⟨rfl, hi, p, ok', s'⟩
  by_cases hlt : i < xs.length
  · refine .inr ⟨wk.go s' hlt, fun σ3 H3 => P (i + 1) σ3 H3 ∧ Ok W M H3 ∧ S M H3, fun σ3 H3 q => ⟨xs.length - (i + 1), by omega, rfl, hlt, q⟩, fun v H2 y => ?_⟩
    obtain ⟨x, hx, e2, r⟩ := wk.yld s' ok' y hlt
    exact hs i x v σ' H' hx p ok' H2 e2 r _ fun σ3 H3 p3 e3 => ⟨p3, (ok'.ex e2).ex e3, wk.st (e2.up.trans e3).le s'⟩
  · have e : i = xs.length := by omega
    subst e
    exact .inl ⟨wk.stop s' (Nat.le_refl _), hd σ' H' p ok'⟩

/-! ### list comprehensions -/
/-- the ways of the kept items, in order -/
def Lc {α β : Type} (p : α → Bool) (R : α → β → Prop) (xs : List α) (ys : List β) : Prop := Paired R (xs.filter p) ys
theorem take_filter {p : α → Bool} {xs : List α} {i : Nat} {x : α} (h : xs[i]? = some x) : (xs.take (i + 1)).filter p = (xs.take i).filter p ++ if p x = true then [x] else [] := by
  rw [List.take_add_one, h, List.filter_append]
  show _ ++ List.filter p [x] = _
  rw [List.filter_cons, List.filter_nil]
theorem lc_w {xs : List α} {p : α → Bool} {R : α → β → Prop} (hi : Ei W M wi σ H xs) (hl : xs.length ≤ 1000000)
    (he : ∀ (i : Nat) (x : α) v M' H', xs[i]? = some x → Le (cut W M H) (cut W M' H') → Ok W M' H' → Rep W M' H' v x → ∀ K : L2.St → Hp → Prop,
      (∀ σ2, wipe σ2 vs = wipe σ vs → Et W M' tt σ2 H' (p x) → (p x = true → EvR W M' te σ2 H' (R x)) → K σ2 H') → g v (wipe σ vs) H' K) :
    EvR W M (tLc wi g tt te vs) σ H (Lc p R xs) := fun H1 e ok Q q => by
  refine hi H1 e ok _ fun J S H2 e2 wk s2 => ?_
  intro L hL
  have ok2 := ok.ex e2
  have nb := ok2.new_b hL
  have nbl := ok2.new_bl hL
  have nM := ok2.new_M hL
  have le2 : Le (cut W M H) (cut W M H2) := (e.trans e2).up.le
  refine ⟨fun i m H' => m = xs.length - i ∧ i ≤ xs.length ∧ Ok W (L :: M) H' ∧ S (L :: M) H' ∧ Ex W [] H2 H' ∧ Le (cut W M H) (cut W (L :: M) H') ∧
    ∃ us ys, H' L = some (.lst us) ∧ Paired (Rep W (L :: M) H') us ys ∧ Paired R ((xs.take i).filter p) ys ∧ us.length ≤ i,
    ⟨xs.length, by simp, Nat.zero_le _, ok2.grow hL, wk.st (le_new hL) s2, Ex.new hL, le2.trans (le_new hL), [], [], upd_same, .nil, by simpa using .nil, Nat.le_refl _⟩, ?_⟩
  rintro i m H' ⟨rfl, hi', ok', s', e', l', us, ys, hL', pp, pr, hz⟩
  by_cases hlt : i < xs.length
  · refine .inr ⟨wk.go s' hlt, fun H3 => i + 1 ≤ xs.length ∧ Ok W (L :: M) H3 ∧ S (L :: M) H3 ∧ Ex W [] H2 H3 ∧ Le (cut W M H) (cut W (L :: M) H3) ∧
      ∃ us ys, H3 L = some (.lst us) ∧ Paired (Rep W (L :: M) H3) us ys ∧ Paired R ((xs.take (i + 1)).filter p) ys ∧ us.length ≤ i + 1, fun H3 q => ⟨xs.length - (i + 1), by omega, rfl, q⟩, fun v H3 y => ?_⟩
    obtain ⟨x, hx, e3, r⟩ := wk.yld s' ok' y hlt
    have ok3 := ok'.ex e3
    have l3 := l'.trans e3.up.le
    refine he i x v (L :: M) H3 hx l3 ok3 r _ fun σ2 hw ht hel => ⟨hw, ht H3 Ex.refl ok3 _ fun H4 e4 => ?_⟩
    cases hp : p x with
    | false =>
      rw [if_neg Bool.false_ne_true]
      have e34 := e3.trans e4
      refine ⟨hlt, ok'.ex e34, wk.st e34.up.le s', e'.trans e34, l'.trans e34.up.le, us, ys, e34.keep L _ nb (by simp) hL', Pd.mono pp fun _ _ r => r.up e34, ?_, by omega⟩
      rw [take_filter hx, hp, if_neg Bool.false_ne_true, List.append_nil]
      exact pr
    | true =>
      rw [if_pos rfl]
      refine hel hp H4 e4 (ok3.ex e4) _ fun w z H5 rz e5 r5 => ?_
      have e35 := (e3.trans e4).trans e5
      have ok5 := ok'.ex e35
      have hL5 := e35.keep L _ nb (by simp) hL'
      have em : Ex W (L :: M) H5 (upd H5 L (.lst (us ++ [w]))) := Ex.mut nb nbl (List.mem_cons_self)
      have e36 : Ex W (L :: M) H' (upd H5 L (.lst (us ++ [w]))) := e35.up.trans em
      refine ⟨us, hL5, Nat.lt_of_le_of_lt hz (sl (by omega)), hlt, ok5.ex em, wk.st e36.le s', (e'.trans e35).mut0 ok2 hL, l'.trans e36.le, us ++ [w], ys ++ [z], upd_same,
        Pd.append (Pd.mono pp fun _ _ r => r.ex e36) (.cons (r5.ex em) .nil), ?_, by rw [List.length_append]; simp; omega⟩
      rw [take_filter hx, hp, if_pos rfl]
      exact Pd.append pr (.cons rz .nil)
  · have e5 : i = xs.length := by omega
    subst e5
    rw [List.take_length] at pr
    exact .inl ⟨wk.stop s' (Nat.le_refl _), q (.ref L) ys H' pr (e2.trans (e'.sub (by simp))) (rep_lst hL' nb nM (Pd.mono pp fun _ _ r => r.less))⟩
/-- how an answer depends on the item alone -/
theorem Lc.map {p : α → Bool} {f : α → β} {xs : List α} {ys : List β} (h : Lc p (fun x y => y = f x) xs ys) : ys = (xs.filter p).map f := by
  unfold Lc at h
  generalize xs.filter p = zs at h
  induction h with
  | nil => rfl
  | cons r _ ih => rw [List.map_cons, ← ih, r]
theorem EvR.ev {x : α} {P : α → Prop} (h : EvR W M te σ H P) (hp : ∀ y, P y → y = x) : Ev W M te σ H x := fun H1 e ok Q q => h H1 e ok Q fun v y H2 py e2 r => q v H2 e2 (hp y py ▸ r)
theorem et_yes : Et W M tYes σ H true := fun H1 _ _ Q q => q H1 Ex.refl
theorem filter_yes {xs : List α} : xs.filter (fun _ => true) = xs := by simp

/-- [e for x in xs], x in slot k -/
theorem ev_lc {xs : List α} {f : α → β} {k : Nat} (hi : Ei W M wi σ H xs) (hl : xs.length ≤ 1000000) (hk : k ∈ vs)
    (he : ∀ (i : Nat) (x : α) v M' H', xs[i]? = some x → Le (cut W M H) (cut W M' H') → Rep W M' H' v x → Ev W M' te ((wipe σ vs).set k (some v)) H' (f x)) : Ev W M (tLc wi (gName k) tYes te vs) σ H (xs.map f) :=
  (lc_w (p := fun _ => true) (R := fun x y => y = f x) hi hl fun i x v M' H' hx l ok r K q => q _ (by rw [wipe_set hk, wipe_wipe]) et_yes fun _ => (he i x v M' H' hx l r).r).ev fun ys h => by rw [h.map, filter_yes]
theorem ev_lcf {xs : List α} {p : α → Bool} {f : α → β} {k : Nat} (hi : Ei W M wi σ H xs) (hl : xs.length ≤ 1000000) (hk : k ∈ vs)
    (ht : ∀ (i : Nat) (x : α) v M' H', xs[i]? = some x → Le (cut W M H) (cut W M' H') → Rep W M' H' v x → Et W M' tt ((wipe σ vs).set k (some v)) H' (p x))
    (he : ∀ (i : Nat) (x : α) v M' H', xs[i]? = some x → p x = true → Le (cut W M H) (cut W M' H') → Rep W M' H' v x → Ev W M' te ((wipe σ vs).set k (some v)) H' (f x)) : Ev W M (tLc wi (gName k) tt te vs) σ H ((xs.filter p).map f) :=
  (lc_w (p := p) (R := fun x y => y = f x) hi hl fun i x v M' H' hx l ok r K q => q _ (by rw [wipe_set hk, wipe_wipe]) (ht i x v M' H' hx l r) fun hp => (he i x v M' H' hx hp l r).r).ev fun ys h => h.map
/-- .. each one of several -/
theorem evr_lc {xs : List α} {R : α → β → Prop} {k : Nat} (hi : Ei W M wi σ H xs) (hl : xs.length ≤ 1000000) (hk : k ∈ vs)
    (he : ∀ (i : Nat) (x : α) v M' H', xs[i]? = some x → Le (cut W M H) (cut W M' H') → Rep W M' H' v x → EvR W M' te ((wipe σ vs).set k (some v)) H' (R x)) : EvR W M (tLc wi (gName k) tYes te vs) σ H (fun ys => Paired R xs ys) :=
  (lc_w (p := fun _ => true) (R := R) hi hl fun i x v M' H' hx l ok r K q => q _ (by rw [wipe_set hk, wipe_wipe]) et_yes fun _ => he i x v M' H' hx l r).imp fun ys h => by unfold Lc at h; rwa [filter_yes] at h
/-- a pair taken apart into slots k, l -/
def gPair (K : PySem.W.Frag) (k l : Nat) : TG := gTup K 2 (gCons (gName k) (gCons (gName l) gNil))
theorem gPair_rd {x : α × β} {v : V} {k l : Nat} {Q : L2.St → Hp → Prop} (r : Rep W M H v x) (h : ∀ v1 v2, Rep W M H v1 x.1 → Rep W M H v2 x.2 → Q ((σ.set k (some v1)).set l (some v2)) H) : gPair W.K k l v σ H Q := by
  obtain ⟨a, v1, v2, ev, hh, _, _, r1, r2⟩ := r.pair
  exact ⟨a, [v1, v2], ev, .inl hh, rfl, v1, [v2], rfl, v2, [], rfl, rfl, h v1 v2 r1 r2⟩
theorem ev_lc2 {xs : List (α × β)} {f : α × β → γ} {k l : Nat} (hi : Ei W M wi σ H xs) (hl : xs.length ≤ 1000000) (hk : k ∈ vs) (hl' : l ∈ vs)
    (he : ∀ (i : Nat) x v1 v2 M' H', xs[i]? = some x → Le (cut W M H) (cut W M' H') → Rep W M' H' v1 x.1 → Rep W M' H' v2 x.2 → Ev W M' te (((wipe σ vs).set k (some v1)).set l (some v2)) H' (f x)) : Ev W M (tLc wi (gPair W.K k l) tYes te vs) σ H (xs.map f) :=
  (lc_w (p := fun _ => true) (R := fun x y => y = f x) hi hl fun i x v M' H' hx l ok r K q => gPair_rd r fun v1 v2 r1 r2 => q _ (by rw [wipe_set hl', wipe_set hk, wipe_wipe]) et_yes fun _ => (he i x v1 v2 M' H' hx l r1 r2).r).ev fun ys h => by rw [h.map, filter_yes]
theorem evr_lc2 {xs : List (α × β)} {R : α × β → γ → Prop} {k l : Nat} (hi : Ei W M wi σ H xs) (hl : xs.length ≤ 1000000) (hk : k ∈ vs) (hl' : l ∈ vs)
    (he : ∀ (i : Nat) x v1 v2 M' H', xs[i]? = some x → Le (cut W M H) (cut W M' H') → Rep W M' H' v1 x.1 → Rep W M' H' v2 x.2 → EvR W M' te (((wipe σ vs).set k (some v1)).set l (some v2)) H' (R x)) : EvR W M (tLc wi (gPair W.K k l) tYes te vs) σ H (fun ys => Paired R xs ys) :=
  (lc_w (p := fun _ => true) (R := R) hi hl fun i x v M' H' hx l ok r K q => gPair_rd r fun v1 v2 r1 r2 => q _ (by rw [wipe_set hl', wipe_set hk, wipe_wipe]) et_yes fun _ => he i x v1 v2 M' H' hx l r1 r2).imp fun ys h => by unfold Lc at h; rwa [filter_yes] at h
end
end RG
namespace RG
open PySem PySem.Spec PyProof.Rows L2 StX RZ

section
variable {α β γ : Type} [Py α] [Py β] [Py γ] {W : Wd} {M M' N : List Addr} {σ σ' : L2.St} {H H1 H2 H' : Hp} {te ta tb tl : TE} {wi wi1 : TI} {vs vs1 : List Nat} {v : V} {x : α} {i : Nat}
/-- [e for x in xs for z in zs] -/
theorem ev_lcc {xs : List α} {zs : α → List β} {f : α → β → γ} {k l : Nat} (hi : Ei W M wi σ H xs) (hl : xs.length ≤ 1000) (hk : k ∈ vs) (hl' : l ∈ vs1)
    (hz : ∀ x ∈ xs, (zs x).length ≤ 1000)
    (h1 : ∀ (i : Nat) (x : α) v M' H', xs[i]? = some x → Le (cut W M H) (cut W M' H') → Rep W M' H' v x → Ei W M' wi1 ((wipe σ vs).set k (some v)) H' (zs x))
    (he : ∀ (i j : Nat) (x : α) (z : β) v u M' H', xs[i]? = some x → (zs x)[j]? = some z → Le (cut W M H) (cut W M' H') → Rep W M' H' v x → Rep W M' H' u z → Ev W M' te ((wipe ((wipe σ vs).set k (some v)) vs1).set l (some u)) H' (f x z)) :
    Ev W M (tLc2 wi (gName k) tYes wi1 (gName l) tYes te vs vs1) σ H (xs.flatMap fun x => (zs x).map (f x)) := fun H1 e ok Q q => by
  refine hi H1 e ok _ fun J S H2 e2 wk s2 => ?_
  intro L hL
  have ok2 := ok.ex e2
  have nb := ok2.new_b hL
  have nbl := ok2.new_bl hL
  have nM := ok2.new_M hL
  have le2 : Le (cut W M H) (cut W M H2) := (e.trans e2).up.le
  refine ⟨fun i m H' => m = xs.length - i ∧ i ≤ xs.length ∧ Ok W (L :: M) H' ∧ S (L :: M) H' ∧ Ex W [] H2 H' ∧ Le (cut W M H) (cut W (L :: M) H') ∧
    ∃ us, H' L = some (.lst us) ∧ Paired (Rep W (L :: M) H') us ((xs.take i).flatMap fun x => (zs x).map (f x)) ∧ us.length ≤ i * 1000,
    ⟨xs.length, by simp, Nat.zero_le _, ok2.grow hL, wk.st (le_new hL) s2, Ex.new hL, le2.trans (le_new hL), [], upd_same, by simpa using .nil, by simp⟩, ?_⟩
  rintro i m H' ⟨rfl, hi', ok', s', e', l', us, hL', pp, hz'⟩
  by_cases hlt : i < xs.length
  · refine .inr ⟨wk.go s' hlt, fun H3 => i + 1 ≤ xs.length ∧ Ok W (L :: M) H3 ∧ S (L :: M) H3 ∧ Ex W [] H2 H3 ∧ Le (cut W M H) (cut W (L :: M) H3) ∧
      ∃ us, H3 L = some (.lst us) ∧ Paired (Rep W (L :: M) H3) us ((xs.take (i + 1)).flatMap fun x => (zs x).map (f x)) ∧ us.length ≤ (i + 1) * 1000, fun H3 q => ⟨xs.length - (i + 1), by omega, rfl, q⟩, fun v H3 y => ?_⟩
    obtain ⟨x, hx, e3, r⟩ := wk.yld s' ok' y hlt
    have ok3 := ok'.ex e3
    have l3 := l'.trans e3.up.le
    refine ⟨by rw [wipe_set hk, wipe_wipe], ?_⟩
    refine h1 i x v (L :: M) H3 hx l3 r H3 Ex.refl ok3 _ fun J1 S1 H4 e4 wk1 s4 => ?_
    have hxm : x ∈ xs := List.mem_of_getElem? hx
    have e34 := e3.trans e4
    refine ⟨fun j m H' => m = (zs x).length - j ∧ j ≤ (zs x).length ∧ Ok W (L :: M) H' ∧ S (L :: M) H' ∧ S1 (L :: M) H' ∧ Ex W [] H2 H' ∧ Le (cut W M H) (cut W (L :: M) H') ∧ Rep W (L :: M) H' v x ∧
      ∃ us, H' L = some (.lst us) ∧ Paired (Rep W (L :: M) H') us (((xs.take i).flatMap fun x => (zs x).map (f x)) ++ ((zs x).take j).map (f x)) ∧ us.length ≤ i * 1000 + j,
      ⟨(zs x).length, by simp, Nat.zero_le _, ok'.ex e34, wk.st e34.up.le s', s4, e'.trans e34, l'.trans e34.up.le, r.up e4, us, e34.keep L _ nb (by simp) hL', by simpa using Pd.mono pp fun _ _ r => r.up e34, hz'⟩, ?_⟩
    rintro j m H5 ⟨rfl, hj, ok5, s5, s15, e5, l5, r5, us5, hL5, pp5, hz5⟩
    by_cases hjl : j < (zs x).length
    · refine .inr ⟨wk1.go s15 hjl, fun H' => j + 1 ≤ (zs x).length ∧ Ok W (L :: M) H' ∧ S (L :: M) H' ∧ S1 (L :: M) H' ∧ Ex W [] H2 H' ∧ Le (cut W M H) (cut W (L :: M) H') ∧ Rep W (L :: M) H' v x ∧
        ∃ us, H' L = some (.lst us) ∧ Paired (Rep W (L :: M) H') us (((xs.take i).flatMap fun x => (zs x).map (f x)) ++ ((zs x).take (j + 1)).map (f x)) ∧ us.length ≤ i * 1000 + (j + 1), fun H' q => ⟨(zs x).length - (j + 1), by omega, rfl, q⟩, fun u H6 y6 => ?_⟩
      obtain ⟨z, hzj, e6, r6⟩ := wk1.yld s15 ok5 y6 hjl
      have ok6 := ok5.ex e6
      have l6 := l5.trans e6.up.le
      refine ⟨by rw [wipe_set hl', wipe_wipe], ?_⟩
      refine he i j x z v u (L :: M) H6 hx hzj l6 (r5.up e6) r6 H6 Ex.refl ok6 _ fun w H7 e7 r7 => ?_
      have e67 := e6.trans e7
      have ok7 := ok5.ex e67
      have hL7 := e67.keep L _ nb (by simp) hL5
      have em : Ex W (L :: M) H7 (upd H7 L (.lst (us5 ++ [w]))) := Ex.mut nb nbl (List.mem_cons_self)
      have e68 : Ex W (L :: M) H5 (upd H7 L (.lst (us5 ++ [w]))) := e67.up.trans em
      have hb := hz x hxm
      refine ⟨us5, hL7, Nat.lt_of_le_of_lt hz5 (Nat.lt_of_lt_of_le (show i * 1000 + j < 1000 * 1000 by have : i * 1000 ≤ 999 * 1000 := Nat.mul_le_mul_right _ (by omega); omega) (by decide)), hjl, ok7.ex em, wk.st e68.le s5, wk1.st e68.le s15, (e5.trans e67).mut0 ok2 hL, l5.trans e68.le, r5.ex e68, us5 ++ [w], upd_same, ?_, by rw [List.length_append]; simp; omega⟩
      rw [List.take_add_one, hzj, List.map_append, ← List.append_assoc]
      exact Pd.append (Pd.mono pp5 fun _ _ r => r.ex e68) (.cons (r7.ex em) .nil)
    · have ej : j = (zs x).length := by omega
      subst ej
      refine .inl ⟨wk1.stop s15 (Nat.le_refl _), hlt, ok5, s5, e5, l5, us5, hL5, ?_, by have := hz x hxm; omega⟩
      rw [List.take_add_one, hx, List.flatMap_append]
      rw [List.take_length] at pp5
      simpa using pp5
  · have e5 : i = xs.length := by omega
    subst e5
    rw [List.take_length] at pp
    exact .inl ⟨wk.stop s' (Nat.le_refl _), q (.ref L) H' (e2.trans (e'.sub (by simp))) (rep_lst hL' nb nM (Pd.mono pp fun _ _ r => r.less))⟩
end

/-! ### what a def promises -/
section
variable {α β γ δ ε : Type} [Py α] [Py β] [Py γ] [Py δ] [Py ε]
/-- one argument -/
def F1 (K : PySem.W.Frag) (C : Str → Addr) (pre : α → Prop) (f : α → β) : Sp := fun vs H Q _ => ∃ (W : Wd) (M : List Addr) (v : V) (x : α), W.K = K ∧ W.C = C ∧ vs = [v] ∧ Ok W M H ∧ Rep W M H v x ∧ pre x ∧ ∀ r H', Ex W [] H H' → Rep W M H' r (f x) → Q r H'
def F2 (K : PySem.W.Frag) (C : Str → Addr) (pre : α → β → Prop) (f : α → β → γ) : Sp := fun vs H Q _ => ∃ (W : Wd) (M : List Addr) (v u : V) (x : α) (y : β), W.K = K ∧ W.C = C ∧ vs = [v, u] ∧ Ok W M H ∧ Rep W M H v x ∧ Rep W M H u y ∧ pre x y ∧
  ∀ r H', Ex W [] H H' → Rep W M H' r (f x y) → Q r H'
def F3 (K : PySem.W.Frag) (C : Str → Addr) (pre : α → β → γ → Prop) (f : α → β → γ → δ) : Sp := fun vs H Q _ => ∃ (W : Wd) (M : List Addr) (v u w : V) (x : α) (y : β) (z : γ), W.K = K ∧ W.C = C ∧ vs = [v, u, w] ∧ Ok W M H ∧ Rep W M H v x ∧ Rep W M H u y ∧ Rep W M H w z ∧ pre x y z ∧
  ∀ r H', Ex W [] H H' → Rep W M H' r (f x y z) → Q r H'
/-- with the bag ahead, one of several answers -/
def B0 (K : PySem.W.Frag) (C : Str → Addr) (R : β → Prop) : Sp := fun vs H Q _ => ∃ (W : Wd) (M : List Addr), W.K = K ∧ W.C = C ∧ vs = [.ref W.b] ∧ Ok W M H ∧ ∀ r z H', R z → Ex W [] H H' → Rep W M H' r z → Q r H'
def B1 (K : PySem.W.Frag) (C : Str → Addr) (pre : α → Prop) (R : α → β → Prop) : Sp := fun vs H Q _ => ∃ (W : Wd) (M : List Addr) (v : V) (x : α), W.K = K ∧ W.C = C ∧ vs = [.ref W.b, v] ∧ Ok W M H ∧ Rep W M H v x ∧ pre x ∧ ∀ r z H', R x z → Ex W [] H H' → Rep W M H' r z → Q r H'
def B2 (K : PySem.W.Frag) (C : Str → Addr) (pre : α → β → Prop) (R : α → β → γ → Prop) : Sp := fun vs H Q _ => ∃ (W : Wd) (M : List Addr) (v u : V) (x : α) (y : β), W.K = K ∧ W.C = C ∧ vs = [.ref W.b, v, u] ∧ Ok W M H ∧ Rep W M H v x ∧ Rep W M H u y ∧ pre x y ∧
  ∀ r z H', R x y z → Ex W [] H H' → Rep W M H' r z → Q r H'
def B3 (K : PySem.W.Frag) (C : Str → Addr) (pre : α → β → γ → Prop) (R : α → β → γ → δ → Prop) : Sp := fun vs H Q _ => ∃ (W : Wd) (M : List Addr) (v u w : V) (x : α) (y : β) (z : γ), W.K = K ∧ W.C = C ∧ vs = [.ref W.b, v, u, w] ∧ Ok W M H ∧ Rep W M H v x ∧ Rep W M H u y ∧ Rep W M H w z ∧ pre x y z ∧
  ∀ r t H', R x y z t → Ex W [] H H' → Rep W M H' r t → Q r H'
variable {W : Wd} {M M' N : List Addr} {σ σ' : L2.St} {H H1 H2 H' : Hp} {ta tb tc td te : TE} {E : XK}
theorem ev_f1 {pre : α → Prop} {f : α → β} {x : α} (ha : Ev W M ta σ H x) (hp : pre x) : Ev W M (tCall (F1 W.K W.C pre f) [] E (tCons ta tNil)) σ H (f x) := fun H1 e ok Q q =>
  ha H1 e ok _ fun v H2 e2 r => ⟨W, M, v, x, rfl, rfl, rfl, ok.ex e2, r, hp, fun r H3 e3 rr => q r H3 (e2.trans e3) rr⟩
theorem ev_f2 {pre : α → β → Prop} {f : α → β → γ} {x : α} {y : β} (ha : Ev W M ta σ H x) (hb : Ev W M tb σ H y) (hp : pre x y) : Ev W M (tCall (F2 W.K W.C pre f) [] E (tCons ta (tCons tb tNil))) σ H (f x y) := fun H1 e ok Q q =>
  ha H1 e ok _ fun v H2 e2 r => hb H2 (e.trans e2) (ok.ex e2) _ fun u H3 e3 r3 => ⟨W, M, v, u, x, y, rfl, rfl, rfl, (ok.ex e2).ex e3, r.up e3, r3, hp, fun r H4 e4 rr => q r H4 ((e2.trans e3).trans e4) rr⟩
theorem ev_f3 {pre : α → β → γ → Prop} {f : α → β → γ → δ} {x : α} {y : β} {z : γ} (ha : Ev W M ta σ H x) (hb : Ev W M tb σ H y) (hc : Ev W M tc σ H z) (hp : pre x y z) :
    Ev W M (tCall (F3 W.K W.C pre f) [] E (tCons ta (tCons tb (tCons tc tNil)))) σ H (f x y z) := fun H1 e ok Q q =>
  ha H1 e ok _ fun v H2 e2 r => hb H2 (e.trans e2) (ok.ex e2) _ fun u H3 e3 r3 => hc H3 ((e.trans e2).trans e3) ((ok.ex e2).ex e3) _ fun w H4 e4 r4 =>
    ⟨W, M, v, u, w, x, y, z, rfl, rfl, rfl, ((ok.ex e2).ex e3).ex e4, (r.up e3).up e4, r3.up e4, r4, hp, fun r H5 e5 rr => q r H5 (((e2.trans e3).trans e4).trans e5) rr⟩
/-- the slot that holds the bag -/
def Bs (W : Wd) (σ : L2.St) (i : Nat) : Prop := σ[i]? = some (some (.ref W.b))
theorem Bs.set {i k : Nat} {v : V} (h : Bs W σ i) (n : i ≠ k := by decide) : Bs W (σ.set k (some v)) i := by
  unfold Bs
  rw [List.getElem?_set_ne (Ne.symm n)]
  exact h
theorem Bs.wipe {i : Nat} (h : Bs W σ i) {vs : List Nat} (n : i ∉ vs := by decide) : Bs W (L2.wipe σ vs) i := by
  unfold Bs at h ⊢
  induction vs with
  | nil => exact h
  | cons a l ih =>
    show ((L2.wipe σ l).set a none)[i]? = _
    rw [List.getElem?_set_ne (fun z => n (by rw [z]; exact List.mem_cons_self))]
    exact ih (fun z => n (List.mem_cons_of_mem _ z))
variable {i : Nat}
theorem evr_b0 {R : β → Prop} (hb : Bs W σ i) : EvR W M (tCall (B0 W.K W.C R) [] E (tCons (tVar i) tNil)) σ H R := fun H1 e ok Q q =>
  ⟨.ref W.b, hb, W, M, rfl, rfl, rfl, ok, fun r z H3 hz e3 rr => q r z H3 hz e3 rr⟩
theorem evr_b1 {pre : α → Prop} {R : α → β → Prop} {x : α} (hb : Bs W σ i) (ha : Ev W M ta σ H x) (hp : pre x) : EvR W M (tCall (B1 W.K W.C pre R) [] E (tCons (tVar i) (tCons ta tNil))) σ H (R x) := fun H1 e ok Q q =>
  ⟨.ref W.b, hb, ha H1 e ok _ fun v H2 e2 r => ⟨W, M, v, x, rfl, rfl, rfl, ok.ex e2, r, hp, fun r z H3 hz e3 rr => q r z H3 hz (e2.trans e3) rr⟩⟩
theorem evr_b2 {pre : α → β → Prop} {R : α → β → γ → Prop} {x : α} {y : β} (hb : Bs W σ i) (ha : Ev W M ta σ H x) (hc : Ev W M tb σ H y) (hp : pre x y) : EvR W M (tCall (B2 W.K W.C pre R) [] E (tCons (tVar i) (tCons ta (tCons tb tNil)))) σ H (R x y) := fun H1 e ok Q q =>
  ⟨.ref W.b, hb, ha H1 e ok _ fun v H2 e2 r => hc H2 (e.trans e2) (ok.ex e2) _ fun u H3 e3 r3 => ⟨W, M, v, u, x, y, rfl, rfl, rfl, (ok.ex e2).ex e3, r.up e3, r3, hp, fun r z H4 hz e4 rr => q r z H4 hz ((e2.trans e3).trans e4) rr⟩⟩
theorem evr_b3 {pre : α → β → γ → Prop} {R : α → β → γ → δ → Prop} {x : α} {y : β} {z : γ} (hb : Bs W σ i) (ha : Ev W M ta σ H x) (hc : Ev W M tb σ H y) (hd : Ev W M tc σ H z) (hp : pre x y z) :
    EvR W M (tCall (B3 W.K W.C pre R) [] E (tCons (tVar i) (tCons ta (tCons tb (tCons tc tNil))))) σ H (R x y z) := fun H1 e ok Q q =>
  ⟨.ref W.b, hb, ha H1 e ok _ fun v H2 e2 r => hc H2 (e.trans e2) (ok.ex e2) _ fun u H3 e3 r3 => hd H3 ((e.trans e2).trans e3) ((ok.ex e2).ex e3) _ fun w H4 e4 r4 =>
    ⟨W, M, v, u, w, x, y, z, rfl, rfl, rfl, ((ok.ex e2).ex e3).ex e4, (r.up e3).up e4, r3.up e4, r4, hp, fun r t H5 ht e5 rr => q r t H5 ht (((e2.trans e3).trans e4).trans e5) rr⟩⟩

/-! ### statements -/
variable {D : Ends} {t1 t2 ts : TS} {tt : TT} {k l : Nat} {x : α} {a p : Addr}
theorem s_set (ok : Ok W M H) (h : Ev W M te σ H x) (q : ∀ v H', Ex W [] H H' → Ok W M H' → Rep W M H' v x → D.nx (σ.set k (some v)) H') : tAsg te (gName k) D σ H :=
  h H Ex.refl ok _ fun v H' e r => q v H' e (ok.ex e) r
theorem s_setR {P : α → Prop} (ok : Ok W M H) (h : EvR W M te σ H P) (q : ∀ v x H', P x → Ex W [] H H' → Ok W M H' → Rep W M H' v x → D.nx (σ.set k (some v)) H') : tAsg te (gName k) D σ H :=
  h H Ex.refl ok _ fun v x H' px e r => q v x H' px e (ok.ex e) r
theorem s_set2 {x : α × β} (ok : Ok W M H) (h : Ev W M te σ H x) (q : ∀ v u H', Ex W [] H H' → Ok W M H' → Rep W M H' v x.1 → Rep W M H' u x.2 → D.nx ((σ.set k (some v)).set l (some u)) H') : tAsg te (gPair W.K k l) D σ H :=
  h H Ex.refl ok _ fun v H' e r => gPair_rd r fun v1 v2 r1 r2 => q v1 v2 H' e (ok.ex e) r1 r2
theorem s_drop (ok : Ok W M H) (h : Ev W M te σ H x) (q : ∀ H', Ex W [] H H' → Ok W M H' → D.nx σ H') : tDrop te D σ H :=
  h H Ex.refl ok _ fun v H' e r => q H' e (ok.ex e)
theorem s_ret (ok : Ok W M H) (h : Ev W M te σ H x) (q : ∀ v H', Ex W [] H H' → Rep W M H' v x → D.rt v H') : tRet te D σ H :=
  h H Ex.refl ok _ fun v H' e r => q v H' e r
theorem s_retR {P : α → Prop} (ok : Ok W M H) (h : EvR W M te σ H P) (q : ∀ v x H', P x → Ex W [] H H' → Rep W M H' v x → D.rt v H') : tRet te D σ H :=
  h H Ex.refl ok _ fun v x H' px e r => q v x H' px e r
theorem s_if {b : Bool} (ok : Ok W M H) (h : Et W M tt σ H b) (h1 : b = true → ∀ H', Ex W [] H H' → Ok W M H' → t1 D σ H') (h2 : b = false → ∀ H', Ex W [] H H' → Ok W M H' → t2 D σ H') : tIfS tt t1 t2 D σ H :=
  h H Ex.refl ok _ fun H' e => by
    cases b with
    | true => rw [if_pos rfl]; exact h1 rfl H' e (ok.ex e)
    | false => rw [if_neg Bool.false_ne_true]; exact h2 rfl H' e (ok.ex e)
theorem s_no (ok : Ok W M H) (h : Et W M tt σ H false) (h2 : ∀ H', Ex W [] H H' → Ok W M H' → t2 D σ H') : tIfS tt t1 t2 D σ H := s_if ok h (fun z => nomatch z) fun _ => h2
theorem s_yes (ok : Ok W M H) (h : Et W M tt σ H true) (h1 : ∀ H', Ex W [] H H' → Ok W M H' → t1 D σ H') : tIfS tt t1 t2 D σ H := s_if ok h (fun _ => h1) (fun z => nomatch z)
/-- xs = [], a list that will be filled -/
theorem s_new (ok : Ok W M H) (q : ∀ p, H p = none → Ex W [] H (upd H p (.lst [])) → Le (cut W M H) (cut W (p :: M) (upd H p (.lst []))) → Ok W (p :: M) (upd H p (.lst [])) → D.nx (σ.set k (some (.ref p))) (upd H p (.lst []))) : tAsg (tLst tNil) (gName k) D σ H :=
  ⟨Nat.zero_le _, fun p hp => q p hp (Ex.new hp) (le_new hp) (ok.grow hp)⟩
/-- a list that is filled: what it holds so far -/
structure Acc {α : Type} [Py α] (W : Wd) (M : List Addr) (σ : L2.St) (H : Hp) (k : Nat) (p : Addr) (xs : List α) : Prop where
  at_ : σ[k]? = some (some (.ref p))
  nb : p ≠ W.b
  nbl : p ≠ W.bl
  mem : p ∈ M
  it : ∃ vs, H p = some (.lst vs) ∧ Paired (Rep W M H) vs xs
theorem Acc.new (ok : Ok W M H) (hp : H p = none) (hk : k < σ.length) : Acc W (p :: M) (σ.set k (some (.ref p))) (upd H p (.lst [])) k p ([] : List α) :=
  ⟨by rw [List.getElem?_set_self hk], ok.new_b hp, ok.new_bl hp, List.mem_cons_self, [], upd_same, .nil⟩
theorem Acc.up {xs : List α} (h : Acc W M σ H k p xs) (e : Ex W [] H H') : Acc W M σ H' k p xs :=
  ⟨h.at_, h.nb, h.nbl, h.mem, let ⟨vs, hh, pp⟩ := h.it; ⟨vs, e.keep _ _ h.nb (by simp) hh, Pd.mono pp fun _ _ r => r.up e⟩⟩
theorem Acc.set {xs : List α} {v : V} (h : Acc W M σ H k p xs) (e : Ex W [] H H') (n : k ≠ l := by decide) : Acc W M (σ.set l (some v)) H' k p xs :=
  ⟨by rw [List.getElem?_set_ne (Ne.symm n)]; exact h.at_, h.nb, h.nbl, h.mem, (h.up e).it⟩
theorem Acc.setσ {xs : List α} {v : V} (h : Acc W M σ H k p xs) (n : k ≠ l := by decide) : Acc W M (σ.set l (some v)) H k p xs := h.set Ex.refl n
/-- xs.append(e) -/
theorem s_app {xs : List α} (ok : Ok W M H) (hA : Acc W M σ H k p xs) (hl : xs.length ≤ 1000000) (h : Ev W M te σ H x)
    (q : ∀ H', Ex W M H H' → (∀ G, Ex W [] G H → Ok W N G → G p = none → Ex W [] G H') → Ok W M H' → Acc W M σ H' k p (xs ++ [x]) → D.nx σ H') : tDrop (tBM W.K "list" rAppend (tVar k) (tCons te tNil)) D σ H := by
  obtain ⟨vs, hp, pp⟩ := hA.it
  refine ⟨.ref p, hA.at_, .inl ⟨rfl, vs, SqL.of hp⟩, h H Ex.refl ok _ fun v H2 e2 r => ⟨p, vs, v, rfl, rfl, e2.keep _ _ hA.nb (by simp) hp, by rw [Pd.length pp]; exact sl hl, ?_⟩⟩
  have em : Ex W M H2 (upd H2 p (.lst (vs ++ [v]))) := Ex.mut hA.nb hA.nbl hA.mem
  refine q _ (e2.up.trans em) (fun G eG okG hG => (eG.trans e2).mut0 okG hG) ((ok.ex e2).ex em) ⟨hA.at_, hA.nb, hA.nbl, hA.mem, vs ++ [v], upd_same, ?_⟩
  exact Pd.append (Pd.mono pp fun _ _ r => (r.up e2).ex em) (.cons (r.ex em) .nil)
theorem s_appR {P : α → Prop} {xs : List α} (ok : Ok W M H) (hA : Acc W M σ H k p xs) (hl : xs.length ≤ 1000000) (h : EvR W M te σ H P)
    (q : ∀ x H', P x → Ex W M H H' → (∀ G, Ex W [] G H → Ok W N G → G p = none → Ex W [] G H') → Ok W M H' → Acc W M σ H' k p (xs ++ [x]) → D.nx σ H') : tDrop (tBM W.K "list" rAppend (tVar k) (tCons te tNil)) D σ H := by
  obtain ⟨vs, hp, pp⟩ := hA.it
  refine ⟨.ref p, hA.at_, .inl ⟨rfl, vs, SqL.of hp⟩, h H Ex.refl ok _ fun v x H2 px e2 r => ⟨p, vs, v, rfl, rfl, e2.keep _ _ hA.nb (by simp) hp, by rw [Pd.length pp]; exact sl hl, ?_⟩⟩
  have em : Ex W M H2 (upd H2 p (.lst (vs ++ [v]))) := Ex.mut hA.nb hA.nbl hA.mem
  refine q x _ px (e2.up.trans em) (fun G eG okG hG => (eG.trans e2).mut0 okG hG) ((ok.ex e2).ex em) ⟨hA.at_, hA.nb, hA.nbl, hA.mem, vs ++ [v], upd_same, ?_⟩
  exact Pd.append (Pd.mono pp fun _ _ r => (r.up e2).ex em) (.cons (r.ex em) .nil)
/-- the list is filled: it is data -/
theorem Acc.done {xs : List α} (h : Acc W (p :: M) σ H k p xs) (hm : p ∉ M) : Sl W M σ H k xs :=
  let ⟨vs, hh, pp⟩ := h.it; ⟨.ref p, h.at_, rep_lst hh h.nb hm (Pd.mono pp fun _ _ r => r.less)⟩
end
end RG
namespace RG
open PySem PySem.Spec PyProof.Rows L2 StX RZ

/-! ### defs, methods, classes of the text, with all that a call asks -/
structure Cal (P : Program) (w : World) (K : PySem.W.Frag) (mg : Str → Option Value) (base : Heap) (k : Nat) (x : Str) (ps : List Str) (sp : Sp) where
  f : Addr
  fd : FuncData
  ok : FnOk P w K mg base CX0 k f fd ps sp
  gl : mg x = some (.ref f)
  kp : PySem.W.keepIn K (.ref f) = true
  b : Binds K fd ps []
structure MetC (P : Program) (w : World) (K : PySem.W.Frag) (mg : Str → Option Value) (base : Heap) (k : Nat) (C : Addr) (m : Str) (ps : List Str) (sp : Sp) where
  f : Addr
  fd : FuncData
  ok : FnOk P w K mg base CX0 k f fd ps sp
  cl : Cls K C
  me : Meth K C m f
  b : Binds K fd ps []
structure PropC (P : Program) (w : World) (K : PySem.W.Frag) (mg : Str → Option Value) (base : Heap) (k : Nat) (C : Addr) (m : Str) (sp : Sp) where
  p : Addr
  g : Addr
  fd : FuncData
  ok : FnOk P w K mg base CX0 k g fd ["self"] sp
  cl : Cls K C
  pr : PropOf K C m p g
  b : Binds K fd ["self"] []
structure MakC (P : Program) (w : World) (K : PySem.W.Frag) (mg : Str → Option Value) (base : Heap) (k : Nat) (C : Addr) (x : Str) (ps : List Str) (sp : Sp) where
  f : Addr
  fd : FuncData
  ok : FnOk P w K mg base CX0 k f fd ps sp
  mo : Mk K C f
  gl : mg x = some (.ref C)
  b : Binds K fd ps []
/-- a special method: found in the class, called by an operator -/
structure OwnC (P : Program) (w : World) (K : PySem.W.Frag) (mg : Str → Option Value) (base : Heap) (k : Nat) (C : Addr) (m : Str) (ps : List Str) (sp : Sp) where
  f : Addr
  fd : FuncData
  ok : FnOk P w K mg base CX0 k f fd ps sp
  fi : PySem.W.findIn K (.ref C) m = some (some (.ref f))
  fn : PySem.W.isFn K (.ref f) = true
  b : Binds K fd ps []
structure CmC (P : Program) (w : World) (K : PySem.W.Frag) (mg : Str → Option Value) (base : Heap) (k : Nat) (C : Addr) (x m : Str) (ps : List Str) (sp : Sp) where
  p : Addr
  f : Addr
  mc : Value
  fd : FuncData
  ok : FnOk P w K mg base CX0 k f fd ps sp
  gl : mg x = some (.ref C)
  rd : ClX.CRead K C mc
  cm : ClX.CMet K C mc m p f
  b : Binds K fd ps []
theorem fnR_of {k : Nat} {f : Addr} {fd : FuncData} {K : PySem.W.Frag} {P : Program} {w : World} {mg : Str → Option Value} {base : Heap} {ps : List Str} {sp : Sp} (F : FnOk P w K mg base CX0 k f fd ps sp) (hb : Binds K fd ps []) : FnR P w K mg base CX0 k f sp :=
  (F.raw hb .nil).imp fun vs H Q E h => by rw [List.append_nil]; exact h

section
variable {X : Cx} {k j i : Nat} {C : Addr} {x m f : Str} {ps : List Str} {sp : Sp} {p pos apos : Pos} {e o : Expr} {es : List Expr} {t : TA} {ta tb te : TE}
/-! ### operators of own classes -/
/-- x in o, by the class's own word -/
def rInOwn (C : Addr) (sp : Sp) (neg : Bool) : R2 := fun x y H Q => ∃ a dx fs, y = .ref a ∧ H a = some (.ins C dx fs) ∧ sp [y, x] H (fun z H' => ∃ b, z = .bl b ∧ Q (.bl (if neg then !b else b)) H') E0
theorem op_inOwn (c : OwnC X.prog X.w X.K X.mg X.base k C "__contains__" ps sp) (hr : Room k X.A) : OpR X (compareOp .In) (rInOwn C sp false) := by
  intro pins s σ H x y v u Q I rx ry h
  obtain ⟨a, dx, fs, rfl, ha, q⟩ := h
  cases (show u = Value.ref a from ry)
  obtain ⟨mA, O, _⟩ := ins_get I.hok ha
  obtain ⟨od, J, _⟩ := O.look
  obtain ⟨m, hF⟩ := I.fr
  refine PySem.W.in_K hF I.ok.mod.kin J c.fi c.fn (wpAny_mono (wpAny_call (run_fnR (us := [.ref a, v]) (vs := [.ref a, x]) (fnR_of c.ok c.b) hr pass0 I (.cons rfl (.cons rx .nil)) q)) (fun r s' z => ?_) fun _ _ x => x)
  obtain ⟨z', H', I', rz, b, ez, qz⟩ := z
  subst ez
  cases (show r = Value.bool b from rz)
  exact wpAny_truthy_bool ⟨.bl b, H', I', rfl, qz⟩
theorem op_notInOwn (c : OwnC X.prog X.w X.K X.mg X.base k C "__contains__" ps sp) (hr : Room k X.A) : OpR X (compareOp .NotIn) (rInOwn C sp true) := by
  intro pins s σ H x y v u Q I rx ry h
  obtain ⟨a, dx, fs, rfl, ha, q⟩ := h
  cases (show u = Value.ref a from ry)
  obtain ⟨mA, O, _⟩ := ins_get I.hok ha
  obtain ⟨od, J, _⟩ := O.look
  obtain ⟨m, hF⟩ := I.fr
  refine PySem.W.notIn_K hF I.ok.mod.kin J c.fi c.fn (wpAny_mono (wpAny_call (run_fnR (us := [.ref a, v]) (vs := [.ref a, x]) (fnR_of c.ok c.b) hr pass0 I (.cons rfl (.cons rx .nil)) q)) (fun r s' z => ?_) fun _ _ x => x)
  obtain ⟨z', H', I', rz, b, ez, qz⟩ := z
  subst ez
  cases (show r = Value.bool b from rz)
  exact wpAny_truthy_bool ⟨.bl (!b), H', I', rfl, qz⟩
/-- len(o), by the class's own word -/
def rLenOwn (C : Addr) (sp : Sp) : List V → Hp → VK → Prop := fun xs H Q => ∃ a dx fs, xs = [.ref a] ∧ H a = some (.ins C dx fs) ∧ sp [.ref a] H (fun z H' => ∃ n : Int, z = .int n ∧ 0 ≤ n ∧ n < 2 ^ 63 ∧ Q (.int n) H') E0
theorem cLenOwn (c : OwnC X.prog X.w X.K X.mg X.base k C "__len__" ps sp) (hr : Room (k + 1) X.A) : CallR X (.builtin "len") (rLenOwn C sp) := by
  intro pins s σ H xs us Q I r h
  obtain ⟨a, dx, fs, rfl, ha, q⟩ := h
  obtain ⟨u, rfl, ru⟩ := r.one
  cases (show u = Value.ref a from ru)
  obtain ⟨mA, O, _⟩ := ins_get I.hok ha
  obtain ⟨od, J, _⟩ := O.look
  obtain ⟨m, hF⟩ := I.fr
  refine PySem.W.len_K hF I.ok.mod.kin J c.fi c.fn (wpAny_mono (wpAny_call (SlX.run_at (us := [.ref a]) (ws := [.ref a]) (fnR_of c.ok c.b) hr.in1 I.env0.in1 pass0 I (.cons rfl .nil) q)) (fun r s' z => ?_) fun _ _ x => x)
  obtain ⟨z', H', I', rz, n, ez, h0, h1, qz⟩ := z
  subst ez
  obtain ⟨t, e⟩ := (show ∃ t, r = Value.int n t from rz)
  cases e
  exact ⟨⟨h0, h1⟩, .int n, H', I'.tok _, ⟨_, rfl⟩, qz⟩
/-- C(..) where a local name holds the class -/
def tMakeL (i : Nat) (C : Addr) (sp : Sp) (t : TA) : TE := fun σ H Q => σ[i]? = some (some (.ref C)) ∧ tMake C sp [] E0 t σ H Q
theorem pe_makeL {f : Addr} {fd : FuncData} (M : Mk X.K C f) (F : FnOk X.prog X.w X.K X.mg X.base CX0 k f fd ps sp) (hr : Room (k + 1) X.A) (hb : Binds X.K fd ps []) (ha : PA X (e :: es) t) (hN : X.N[i]? = some x := by rfl)
    (hv : Vis X.env.scope x := by first | exact Or.inl rfl | exact Or.inr (Or.inl rfl) | exact Or.inr (Or.inr rfl)) (hdb : (x == ("__debug__" : Str)) = false := by decide) (hcd : (x == ("__classdict__" : Str)) = false := by decide)
    (he : starEach (e :: es) X.env = (false, eval e X.env) :: starEach es X.env := by rfl) (hpl : (backTo pos (starEach es X.env)).any (·.1) = false := by rfl) : PE X (.Call (.Name x p) (e :: es) [] pos) (tMakeL i C sp t) := by
  refine ⟨fun pins s σ H Q I h => ?_⟩
  obtain ⟨hs, ht⟩ := h
  refine wpAny_Call_Name_kw (thn ((pe_var (pos := p) hN hv hdb hcd).run pins s σ H (fun v H1 => v = .ref C ∧ H1 = H) I ⟨.ref C, hs, rfl, rfl⟩) fun u s1 ⟨v, H1, I1, r1, q1⟩ => ?_)
  obtain ⟨rfl, rfl⟩ := q1
  cases r1
  refine PySem.W.callWith_K (h₀ := X.base) I.ok.mod.kin M.kp (thn (ha.run pos pins s1 σ _ _ I1 ht) fun us s2 ⟨vs, H2, I2, r, q⟩ => ⟨I2.kIn, ?_⟩) he hpl
  exact run_make M F hr hb .nil pass0 I2 r q

/-! ### a list or a tuple -/
def iSeq (K : PySem.W.Frag) (tl : TE) : TI := fun σ H R => tl σ H fun x H1 => ∃ a, x = .ref a ∧ (((∃ xs, SqL K H1 a xs) ∧ R (Itl K a) H1) ∨ ((∃ xs, SqT K H1 a xs) ∧ R (Itt K a) H1))
theorem pi_seq {tg l : Expr} {tl : TE} (hl : PE X l tl) : PI X tg l (iSeq X.K tl) := by
  refine ⟨fun pins s σ H R I h => ?_⟩
  refine thn (hl.run pins s σ H _ I h) fun v s1 ⟨x, H1, I1, r1, q1⟩ => ?_
  obtain ⟨a, e, q⟩ := q1
  subst e
  cases r1
  have one : ∀ b, b ∈ [s1.heap.objs.size] → b = s1.heap.objs.size := fun b hb => by simpa using hb
  rcases q with ⟨⟨xs, hq⟩, q⟩ | ⟨⟨xs, hq⟩, q⟩
  · obtain ⟨its, rv, p, hz⟩ := I1.list hq
    refine wpAny_pyIter_list p.isList ?_
    exact ⟨s1.heap.objs.size, [s1.heap.objs.size], _, _, H1, rfl, I1.kept (t' := s1.toks) fun b o e => Heap.get?_push_of_some _ e, turn_list a _, ⟨_, Heap.get?_push_size _ rfl, rfl, rfl⟩,
      fun b hb => by rw [one b hb]; exact I1.fpOk (Nat.le_refl _) (I1.hok.fresh (Nat.le_refl _)), q⟩
  · obtain ⟨its, rv, p, hz⟩ := I1.tuple hq
    refine wpAny_pyIter_tuple (show s1.heap.IsTuple a its.toArray from p) ?_
    exact ⟨s1.heap.objs.size, [s1.heap.objs.size], _, _, H1, rfl, I1.kept (t' := s1.toks) fun b o e => Heap.get?_push_of_some _ e, turn_tuple a _, ⟨_, Heap.get?_push_size _ rfl, rfl, rfl⟩,
      fun b hb => by rw [one b hb]; exact I1.fpOk (Nat.le_refl _) (I1.hok.fresh (Nat.le_refl _)), q⟩
/-- an item of a list or of a tuple -/
def rIxQ (K : PySem.W.Frag) : R2 := fun x y H Q => rIxL K x y H Q ∨ rIxT K x y H Q
theorem ix_seqQ : IxR X (rIxQ X.K) := fun value slice pins s σ H x y v u Q I rx ry h hs => by
  rcases h with h | h
  · exact ix_list value slice pins s σ H x y v u Q I rx ry h hs
  · exact ix_tup value slice pins s σ H x y v u Q I rx ry h hs

/-! ### a tuple whose object is known: tuple(a list), and its methods -/
def rTupOfF (K : PySem.W.Frag) : List V → Hp → VK → Prop := fun xs H Q => ∃ p ys, xs = [.ref p] ∧ SqL K H p ys ∧ ∀ l o, H l = none → o.cls = .type "tuple" → o.dict = none → Q (.ref l) (upd H l (.frz o (.tup ys)))
theorem cTupOfF : CallR X (.type "tuple") (rTupOfF X.K) := by
  intro pins s σ H xs us Q I r h
  obtain ⟨p, ys, rfl, hq, q⟩ := h
  obtain ⟨u, rfl, ru⟩ := r.one
  cases ru
  obtain ⟨its, r', pl, hz⟩ := I.list hq
  have hlen := r'.length
  refine call_tuple_list pl.isList (fun h' kp => ?_) (by simp only [List.size_toArray] <;> omega)
  have I1 : Inv X pins σ H { s with heap := h' } := I.kept (t' := s.toks) kp
  have I2 : Inv X pins σ (upd H h'.objs.size (.frz { cls := .type "tuple", data := .seq its.toArray } (.tup ys))) { s with heap := h'.push { cls := .type "tuple", data := .seq its.toArray } } :=
    I1.laid (t' := s.toks) (fun b o e => Heap.get?_push_of_some _ e) (Nat.le_refl _) (show ObjOk X.prog X.w _ _ _ (.frz _ (.tup ys)) from ⟨Heap.get?_push_size _ rfl, hz, its, r', IsTup.new _ _⟩)
  exact ⟨.ref h'.objs.size, _, I2, rfl, q _ _ (I1.hok.fresh (Nat.le_refl _)) rfl rfl⟩
def tBMF (T : String) (r : V → List V → Hp → VK → Prop) (to : TE) (t : TA) : TE := fun σ H Q => to σ H fun x H1 => (∃ a ob u, x = .ref a ∧ H1 a = some (.frz ob u) ∧ ob.cls = .type T ∧ ob.dict = none) ∧ t σ H1 fun xs H2 => r x xs H2 Q
theorem pe_bmF {to : TE} {name : Str} {cpos : Pos} {T id : String} {r : V → List V → Hp → VK → Prop} (pa : PlainAttrs T) (slot : Slot T name id) (hty : typeOf (.builtin id) = pure (.type "method_descriptor")) (hm : MtR X id r) (ho : PE X o to) (ha : PA X (e :: es) t)
    (hbase : attributeBase o name X.env (eval o X.env) = eval o X.env := by rfl)
    (hfew : ((backTo cpos (starEach (e :: es) X.env)).all (fun x => !x.1) && (backToKw cpos (keywordEach [] X.env)).all (fun x => x.1.isSome)
      && decide ((e :: es).length + ([] : List Keyword).length + (if ([] : List Keyword).isEmpty then 0 else 1) < 30)) = true := by rfl)
    (hline : (apos.endLine == cpos.line) = true := by rfl) (hs : starEach (e :: es) X.env = (false, eval e X.env) :: starEach es X.env := by rfl) (hplain : (backTo cpos (starEach es X.env)).any (·.1) = false := by rfl) :
    PE X (.Call (.Attribute o name apos) (e :: es) [] cpos) (tBMF T r to t) := by
  refine ⟨fun pins s σ H Q I h => ?_⟩
  refine wpAny_Call_method_late hbase hfew hline rfl (thn (ho.run pins s σ H _ I h) fun v s1 ⟨x, H1, I1, r1, ty, q1⟩ => ?_)
  obtain ⟨a, ob, u, rfl, ha1, hc1, hd1⟩ := ty
  cases r1
  have hob : s1.heap.get? a = some ob := (show ObjOk X.prog X.w H1 s1.heap a (.frz ob u) from I1.hok a _ ha1).1
  refine ⟨T, id, pa, slot, hty, ⟨ob, hob, hc1⟩, (fun b eb => by cases eb; exact ⟨ob, hob, hd1⟩), ?_⟩
  have hA := ha.run cpos pins s1 σ H1 _ I1 q1
  rw [hs] at hA ⊢
  refine Calls.callWith_builtin (by show (false || (backTo cpos (starEach es X.env)).any (·.1)) = false; rw [hplain] <;> rfl) (Calls.evalArgs_plain ?_)
  exact thn hA fun us s2 ⟨vs, H2, I2, r2, q2⟩ => hm pins s2 σ H2 (.ref a) vs (.ref a) us Q I2 rfl r2 q2
end
end RG
namespace RG
open PySem PySem.Spec PyProof.Rows L2 StX RZ
theorem u65 {k : Nat} {A : Around} (r : Room k A) : A.units + 65 < cLine := by have := r.un; omega

/-! ### a list or a tuple -/
structure Sq (α : Type) where
  l : List α
  deriving DecidableEq
instance : Inhabited (Sq α) := ⟨⟨[]⟩⟩
instance [Py α] : Py (Sq α) := ⟨fun W H v x => Py.rep W H v x.l ∨ Py.rep W H v (Tup.mk x.l), fun l h => h.elim (fun h => .inl (Py.mono l h)) fun h => .inr (Py.mono l h)⟩

section
variable {α β γ : Type} [Py α] [Py β] [Py γ] {W : Wd} {M M' N : List Addr} {σ σ' : L2.St} {H H1 H2 H' : Hp} {te ta tb tc tl : TE} {tr : TA} {x : α} {y : β} {v : V}
theorem Rep.sq {xs : Sq α} (h : Rep W M H v xs) : Rep W M H v xs.l ∨ Rep W M H v (Tup.mk xs.l) := h
theorem Rep.toSq {xs : List α} (h : Rep W M H v xs) : Rep W M H v (Sq.mk xs) := .inl h
theorem Rep.toSqT {xs : Tup α} (h : Rep W M H v xs) : Rep W M H v (Sq.mk xs.l) := .inr h
/-- read as data of another kind -/
theorem Ev.cv {z : β} (h : Ev W M te σ H x) (q : ∀ v H', Rep W M H' v x → Rep W M H' v z) : Ev W M te σ H z := fun H1 e ok Q k => h H1 e ok Q fun v H2 e2 r => k v H2 e2 (q v H2 r)
theorem Ev.sq {xs : List α} (h : Ev W M te σ H xs) : Ev W M te σ H (Sq.mk xs) := h.cv fun _ _ r => r.toSq
theorem Ev.sqT {xs : Tup α} (h : Ev W M te σ H xs) : Ev W M te σ H (Sq.mk xs.l) := h.cv fun _ _ r => r.toSqT
theorem Pd.cv {F G : V → α → Prop} {f : α → β} {K : V → β → Prop} (h : ∀ v x, F v x → K v (f x)) : ∀ {vs : List V} {xs : List α}, Paired F vs xs → Paired K vs (xs.map f)
  | _, _, .nil => .nil
  | _, _, .cons r t => .cons (h _ _ r) (Pd.cv (G := F) h t)
theorem Rep.lmap {xs : List α} {f : α → β} (h : Rep W M H v xs) (q : ∀ v x, Rep W M H v x → Rep W M H v (f x)) : Rep W M H v (xs.map f) := by
  obtain ⟨a, vs, e, hh, hb, hm, pp⟩ := h.lst
  subst e
  exact rep_lst hh hb hm (Pd.cv (G := Rep W M H) q pp)
theorem Rep.tmap {xs : Tup α} {f : α → β} (h : Rep W M H v xs) (q : ∀ v x, Rep W M H v x → Rep W M H v (f x)) : Rep W M H v (Tup.mk (xs.l.map f)) := by
  obtain ⟨a, vs, e, hh, hb, hm, pp⟩ := h.tup
  subst e
  exact rep_tup hh hb hm (Pd.cv (G := Rep W M H) q pp)
theorem Rep.pmap {x : α × β} {z : γ} (h : Rep W M H v x) (q : ∀ v, Rep W M H v x.2 → Rep W M H v z) : Rep W M H v (x.1, z) := by
  obtain ⟨a, v1, v2, e, hh, hb, hm, r1, r2⟩ := h.pair
  subst e
  exact rep_pair hh hb hm r1 (q _ r2)
theorem ev_lenQ {xs : Sq α} (ha : Ev W M ta σ H xs) : Ev W M (tCB (rLenS W.K) (tCons ta tNil)) σ H (xs.l.length : Int) := fun H1 e ok Q q =>
  ha H1 e ok _ fun v H2 e2 r => by
    rcases r.sq with r | r
    · obtain ⟨a, vs, ev, hh, _, _, pp⟩ := r.lst
      exact ⟨a, vs, by rw [ev], .inl (SqL.of hh), by rw [Pd.length pp]; exact q _ H2 e2 rep_int⟩
    · obtain ⟨a, vs, ev, hh, _, _, pp⟩ := r.tup
      exact ⟨a, vs, by rw [ev], .inr (.inl hh), by rw [Pd.length pp]; exact q _ H2 e2 rep_int⟩
theorem ev_listQ {xs : Sq α} (ha : Ev W M ta σ H xs) : Ev W M (tCB (rListOf W.K) (tCons ta tNil)) σ H xs.l := fun H1 e ok Q q =>
  ha H1 e ok _ fun v H2 e2 r => by
    rcases r.sq with r | r
    · obtain ⟨a, vs, ev, hh, _, _, pp⟩ := r.lst
      exact ⟨a, vs, by rw [ev], .inl (SqL.of hh), fun l hl => q _ _ (e2.trans (Ex.new hl)) (rep_lst upd_same ((ok.ex e2).new_b hl) ((ok.ex e2).new_M hl) (Pd.mono pp fun _ _ r => r.up (Ex.new hl)))⟩
    · obtain ⟨a, vs, ev, hh, _, _, pp⟩ := r.tup
      exact ⟨a, vs, by rw [ev], .inr (.inl hh), fun l hl => q _ _ (e2.trans (Ex.new hl)) (rep_lst upd_same ((ok.ex e2).new_b hl) ((ok.ex e2).new_M hl) (Pd.mono pp fun _ _ r => r.up (Ex.new hl)))⟩
theorem ev_tupleQ {xs : Sq α} (ha : Ev W M ta σ H xs) : Ev W M (tCB (rTupOf W.K) (tCons ta tNil)) σ H (Tup.mk xs.l) := fun H1 e ok Q q =>
  ha H1 e ok _ fun v H2 e2 r => by
    rcases r.sq with r | r
    · obtain ⟨a, vs, ev, hh, _, _, pp⟩ := r.lst
      exact ⟨a, vs, by rw [ev], .inl ⟨SqL.of hh, fun l hl => q _ _ (e2.trans (Ex.new hl)) (rep_tup (.inl upd_same) ((ok.ex e2).new_b hl) ((ok.ex e2).new_M hl) (Pd.mono pp fun _ _ r => r.up (Ex.new hl)))⟩⟩
    · obtain ⟨a, vs, ev, hh, hb, hm, pp⟩ := r.tup
      subst ev
      exact ⟨a, vs, rfl, .inr ⟨.inl hh, q _ _ e2 (rep_tup hh hb hm pp)⟩⟩
theorem ei_seq {xs : Sq α} (h : Ev W M tl σ H xs) : Ei W M (iSeq W.K tl) σ H xs.l := fun H1 e ok R q =>
  h H1 e ok _ fun v H2 e2 r => by
    rcases r.sq with r | r
    · obtain ⟨a, vs, ev, hh, _, _, _⟩ := id r.lst
      subst ev
      refine ⟨a, rfl, .inl ?_⟩
      have z := ei_list (M := M) (xs := xs.l) (tl := fun _ H Q => Q (.ref a) H) (σ := σ) (H := H2) (fun H3 e3 ok3 Q3 q3 => q3 _ H3 Ex.refl (r.up e3)) H2 Ex.refl (ok.ex e2) R fun J S H3 e3 => q J S H3 (e2.trans e3)
      obtain ⟨b, eb, p, z⟩ := z
      cases eb
      exact ⟨p, z⟩
    · obtain ⟨a, vs, ev, hh, _, _, _⟩ := id r.tup
      subst ev
      refine ⟨a, rfl, .inr ?_⟩
      have z := ei_tup (M := M) (xs := Tup.mk xs.l) (tl := fun _ H Q => Q (.ref a) H) (σ := σ) (H := H2) (fun H3 e3 ok3 Q3 q3 => q3 _ H3 Ex.refl (r.up e3)) H2 Ex.refl (ok.ex e2) R fun J S H3 e3 => q J S H3 (e2.trans e3)
      obtain ⟨b, eb, p, z⟩ := z
      cases eb
      exact ⟨p, z⟩

/-! ### isinstance -/
theorem ty_str {z : Str} (r : Rep W M H v z) : TyX W.K H v (.type "str") := by cases (show v = .str z from r); exact .base (.str _)
theorem ty_int {z : Int} (r : Rep W M H v z) : TyX W.K H v (.type "int") := by cases (show v = .int z from r); exact .base (.int _)
theorem ty_rd {a : Addr} {vs : List V} {K : PySem.W.Frag} (h : Rd H a (.tup vs)) : TyX K H (.ref a) (.type "tuple") := h.elim (fun h => .base (.tup h)) fun ⟨_, h⟩ => .fTuple h
theorem ty_tup {z : Tup α} (r : Rep W M H v z) : TyX W.K H v (.type "tuple") := by obtain ⟨a, vs, e, hh, _⟩ := r.tup; subst e; exact ty_rd hh
theorem ty_pair {z : α × β} (r : Rep W M H v z) : TyX W.K H v (.type "tuple") := by obtain ⟨a, v1, v2, e, hh, _⟩ := r.pair; subst e; exact ty_rd hh
theorem ty_lst {z : List α} (r : Rep W M H v z) : TyX W.K H v (.type "list") := by obtain ⟨a, vs, e, hh, _⟩ := r.lst; subst e; exact .base (.lst hh)
/-- isinstance(x, c) -/
theorem ev_isi {c : V} {u : Value} {t : Value} {b : Bool} (ha : Ev W M ta σ H x) (ty : ∀ v H2, Rep W M H2 v x → TyX W.K H2 v t) (k : ClsV c u) (e : PySem.W.kitOne W.K t u = some b) :
    Ev W M (tCB (rIsi W.K) (tCons ta (tCons (tC c) tNil))) σ H b := fun H1 e1 ok Q q =>
  ha H1 e1 ok _ fun v H2 e2 r => ⟨v, c, t, u, b, rfl, k, ty v H2 r, e, q _ H2 e2 rep_bl⟩
/-- isinstance(x, (c, d)) -/
theorem ev_isi2 {c d : V} {u w : Value} {b : Bool} {P : Value → Prop} (ha : Ev W M ta σ H x) (ty : ∀ v H2, Rep W M H2 v x → ∃ t, TyX W.K H2 v t ∧ P t) (k : ClsV c u) (k2 : ClsV d w) (e : ∀ t, P t → PySem.W.kitAny W.K t [u, w] = some b) :
    Ev W M (tCB (rIsiT W.K) (tCons ta (tCons (tTup (tCons (tC c) (tCons (tC d) tNil))) tNil))) σ H b := fun H1 e1 ok Q q =>
  ha H1 e1 ok _ fun v H2 e2 r => ⟨by show 2 ≤ sizeLine; decide, fun p hp => by
    obtain ⟨t, ht, pt⟩ := ty v _ (r.up (Ex.new (o := .tup [c, d]) hp))
    exact ⟨v, p, [c, d], t, [u, w], b, rfl, upd_same, .cons k (.cons k2 .nil), ht, e t pt, q _ _ (e2.trans (Ex.new hp)) rep_bl⟩⟩
theorem ev_isStr {z : Str} (ha : Ev W M ta σ H z) : Ev W M (tCB (rIsi W.K) (tCons ta (tCons (tC (.ty "str")) tNil))) σ H true := ev_isi ha (fun _ _ r => ty_str r) (.ty "str") (kit_ty (by decide +kernel))
theorem ev_isTup {z : Tup α} (ha : Ev W M ta σ H z) : Ev W M (tCB (rIsi W.K) (tCons ta (tCons (tC (.ty "tuple")) tNil))) σ H true := ev_isi ha (fun _ _ r => ty_tup r) (.ty "tuple") (kit_ty (by decide +kernel))
theorem ev_isPair {z : α × β} (ha : Ev W M ta σ H z) : Ev W M (tCB (rIsi W.K) (tCons ta (tCons (tC (.ty "tuple")) tNil))) σ H true := ev_isi ha (fun _ _ r => ty_pair r) (.ty "tuple") (kit_ty (by decide +kernel))
theorem ev_isSq {z : Sq α} (ha : Ev W M ta σ H z) : Ev W M (tCB (rIsiT W.K) (tCons ta (tCons (tTup (tCons (tC (.ty "list")) (tCons (tC (.ty "tuple")) tNil))) tNil))) σ H true :=
  ev_isi2 (P := fun t => t = .type "list" ∨ t = .type "tuple") ha (fun v H2 r => r.sq.elim (fun r => ⟨_, ty_lst r, .inl rfl⟩) fun r => ⟨_, ty_tup r, .inr rfl⟩) (.ty "list") (.ty "tuple") fun t pt => by
    rcases pt with rfl | rfl
    · exact kitAny_cons (b := true) (kit_ty (by decide +kernel)) (fun z => nomatch z) fun _ => rfl
    · exact kitAny_cons (b := false) (kit_ty (by decide +kernel)) (fun _ => kitAny_cons (b := true) (kit_ty (by decide +kernel)) (fun z => nomatch z) fun _ => rfl) (fun z => nomatch z)
/-- isinstance(x, tuple) of any data -/
def isTupD : PyData → Bool
  | .tuple _ => true
  | _ => false
theorem ev_isTupD {d : PyData} (ha : Ev W M ta σ H d) : Ev W M (tCB (rIsi W.K) (tCons ta (tCons (tC (.ty "tuple")) tNil))) σ H (isTupD d) := fun H1 e1 ok Q q =>
  ha H1 e1 ok _ fun v H2 e2 r => by
    have r1 : Dp W.K H2 v d := dp_le cut_le _ _ r
    have fin : ∀ t b, TyX W.K H2 v t → PySem.W.kitOne W.K t (.type "tuple") = some b → b = isTupD d → ∃ x c t u b, [v, V.ty "tuple"] = [x, c] ∧ ClsV c u ∧ TyX W.K H2 x t ∧ PySem.W.kitOne W.K t u = some b ∧ Q (.bl b) H2 := fun t b h1 h2 h3 =>
      ⟨v, .ty "tuple", t, .type "tuple", b, rfl, .ty "tuple", h1, h2, h3 ▸ q _ H2 e2 rep_bl⟩
    cases r1 with
    | non => exact fin _ false (.base .non) (kit_ty (by decide +kernel)) rfl
    | bl b => exact fin _ false (.base (.bl _)) (kit_ty (by decide +kernel)) rfl
    | int i => exact fin _ false (.base (.int _)) (kit_ty (by decide +kernel)) rfl
    | str i => exact fin _ false (.base (.str _)) (kit_ty (by decide +kernel)) rfl
    | lst h _ =>
      rcases h with (h | ⟨o, h⟩) | ⟨o, its, n, h, c, _⟩
      · exact fin _ false (.base (.lst h)) (kit_ty (by decide +kernel)) rfl
      · exact fin _ false (.base (.frz h)) (kit_ty (by decide +kernel)) rfl
      · exact fin _ false (.kList h c) (kit_ty (by decide +kernel)) rfl
    | tup h _ =>
      rcases h with h | ⟨o, its, n, h, c, _⟩
      · exact fin _ true (ty_rd h) (kit_ty (by decide +kernel)) rfl
      · exact fin _ true (.kTuple h c) (kit_ty (by decide +kernel)) rfl
end
end RG
namespace RG
open PySem PySem.Spec PyProof.Rows L2 StX RZ

/-! ### join, split -/
def rJoin (K : PySem.W.Frag) : V → List V → Hp → VK → Prop := fun x xs H Q => ∃ a p, ∃ ys : List Str, x = .str a ∧ xs = [.ref p] ∧ (SqL K H p (ys.map V.str) ∨ SqT K H p (ys.map V.str)) ∧
  (ys.map (·.length)).sum + ys.length * a.length ≤ 16777216 ∧ Q (.str (Txt.join a ys)) H
def rSplit : V → List V → Hp → VK → Prop := fun x xs H Q => ∃ a b, x = .str a ∧ xs = [.str b] ∧ (b.length == 0) = false ∧ a.length + 2 ≤ sizeLine ∧ rNewStrs (Txt.split a b) H Q
section
variable {X : Cx} {o e : Expr} {to te : TE} {apos pos : Pos}
theorem peJoin (ho : PE X o to) (he : PE X e te) (hs : starEach [e] X.env = [(false, eval e X.env)] := by rfl) (hbase : attributeBase o "join" X.env (eval o X.env) = eval o X.env := by rfl) (hline : (apos.endLine == pos.line) = true := by rfl) :
    PE X (.Call (.Attribute o "join" apos) [e] [] pos) (tM1 (rJoin X.K) to te) := pe_join ho he hs hbase hline
theorem peSplit (ho : PE X o to) (he : PE X e te) (hs : starEach [e] X.env = [(false, eval e X.env)] := by rfl) (hbase : attributeBase o "split" X.env (eval o X.env) = eval o X.env := by rfl) (hline : (apos.endLine == pos.line) = true := by rfl) :
    PE X (.Call (.Attribute o "split" apos) [e] [] pos) (tM1 rSplit to te) := pe_split ho he hs hbase hline
/-! ### a text once or not at all -/
def rMulS : R2 := fun x y H Q => ∃ (z : Str) (k : Int), x = .str z ∧ y = .int k ∧ (k = 0 ∧ Q (.str Str.empty) H ∨ k = 1 ∧ Q (.str z) H)
theorem op_mulS : OpR X (binaryOp .Mult) rMulS := by
  intro pins s σ H x y v u Q I rx ry h
  obtain ⟨z, k, rfl, rfl, h⟩ := h
  obtain ⟨t, rfl⟩ := rx
  obtain ⟨t2, rfl⟩ := ry
  rcases h with ⟨rfl, q⟩ | ⟨rfl, q⟩
  · exact PySem.P.mul_str_none (by decide) (by decide) ⟨.str Str.empty, H, I.tok _, ⟨_, rfl⟩, q⟩
  · refine PySem.P.mul_str (by decide) (fun _ h => by simp at h) (fun _ h => by simp at h) ?_
    rw [if_neg (by decide), if_pos (by simp)]
    exact ⟨.str z, H, I, ⟨_, rfl⟩, q⟩
/-! ### a tuple times a number -/
theorem tup_once (l : Addr) (its : Array Value) (n : Nat) (dd : Option Addr) (sl : Array (Option Value)) (u : Tok) :
    Meets (Builtin.«tuple.__mul__» ⟨[.ref l, .int 1 u], []⟩) (fun _ R s => s.heap.get? l = some { cls := .type "tuple", dict := dd, data := .seq its n, slots := sl } ∧ R (.ok (.ret (Value.ref l))) s) :=
  .of_wp fun prog w A R s h => by
    obtain ⟨hp, g, d, tk, os⟩ := s
    obtain ⟨hl, h⟩ := h
    have f1 := AutoSeq1.idx_int
    have c0 : (decide ((1 : Int) < -(2 ^ 63)) || decide ((1 : Int) ≥ 2 ^ 63)) = false := by decide
    have c1 : (its.isEmpty || (1 : Int) == 1) = true := by simp
    wp_walk using wpAny_loadPart' hl
    repeat (first
      | (refine wpAny_ite_false (decide_eq_false (by rw [c0] <;> exact Bool.false_ne_true)) ?_; wp_walk using wpAny_loadPart' hl)
      | (refine wpAny_ite_true (decide_eq_true (by rw [c1])) ?_; wp_walk using wpAny_loadPart' hl))
    all_goals (first | exact ⟨_, rfl, h⟩ | skip)
theorem op_tupOnce : OpR X (binaryOp .Mult) (fun x y H Q => ∃ l xs, x = .ref l ∧ y = .int 1 ∧ SqT X.K H l xs ∧ Q (.ref l) H) := by
  intro pins s σ H x y v u Q I rx ry h
  obtain ⟨l, xs, rfl, rfl, hT, q⟩ := h
  cases rx
  obtain ⟨t, rfl⟩ := ry
  obtain ⟨its, r, ⟨⟨cls, dd, data, sl⟩, ho, hc, n, hd⟩, hs⟩ := I.tuple hT
  simp only at hc hd
  subst hc hd
  exact wpAny_binaryOp_repeat_ref (T := "tuple") (U := "int") (by decide) ⟨_, ho, rfl⟩ (fun s' => typeIs_int s' 1 t) noFill_tuple_mul F.fills_int_mul F.slot_int_rmul repeat_tuple F.slot_int_index.lookup
    (call_meets F.slot_int_rmul (typeIs_int s 1 t) F.entry_int_rmul (F.args_int_rmul_2 _ _) (int_rmul_tuple 1 t l its.toArray n dd sl)
      ⟨ho, rfl, ⟨_, ho, rfl⟩, call_meets F.slot_tuple_mul ⟨_, ho, rfl⟩ F.entry_tuple_mul (F.args_tuple_mul_2 _ _) (tup_once l its.toArray n dd sl t) ⟨ho, .ref l, H, I, rfl, q⟩⟩)
def rMulT (K : PySem.W.Frag) : R2 := fun x y H Q => ∃ l k xs, x = .ref l ∧ y = .int k ∧ SqT K H l xs ∧ xs ≠ [] ∧ 1 ≤ k ∧ k ≤ 1000 ∧ xs.length ≤ 1000 ∧ (k = 1 → Q (.ref l) H) ∧ ∀ p, H p = none → Q (.ref p) (upd H p (.tup (List.replicate k.toNat xs).flatten))
theorem op_mulT : OpR X (binaryOp .Mult) (rMulT X.K) := by
  intro pins s σ H x y v u Q I rx ry h
  obtain ⟨l, k, xs, e1, e2, hT, hn, h1, h2, h3, q1, q2⟩ := h
  by_cases hk : k = 1
  · exact op_tupOnce pins s σ H x y v u Q I rx ry ⟨l, xs, e1, by rw [e2, hk], hT, q1 hk⟩
  · exact op_repT pins s σ H x y v u Q I rx ry ⟨l, k, xs, e1, e2, hT, hn, by omega, h2, h3, q2⟩
/-! ### tuple.index -/
/-- where in a list the first is -/
def rIdxT (K : PySem.W.Frag) : V → List V → Hp → VK → Prop := fun x vs H Q => ∃ a ob us y ds d, x = .ref a ∧ vs = [y] ∧ H a = some (.frz ob (.tup us)) ∧ DpAll K H us ds ∧ Dp K H y d ∧ PyData.depthAll ds ≤ 64 ∧ true ∈ ds.map (fun z => PyData.eqv z d) ∧
  Q (.int (((ds.map fun z => PyData.eqv z d).idxOf true : Nat) : Int)) H
theorem mt_idxT (hu : X.A.units + 65 < cLine) : MtR X "tuple.index" (rIdxT X.K) := by
  intro pins s σ H x vs v us Q I rx rv h
  obtain ⟨a, ob, ws, y, ds, d, rfl, rfl, ha, hq, hd, z, hm, q⟩ := h
  cases rx
  obtain ⟨u, rfl, ru⟩ := rv.one
  obtain ⟨its, r, pl, _⟩ := I.tuple (show SqT X.K H a ws from .inl (.inr ⟨ob, ha⟩))
  have hl : its.length = ds.length := by rw [← r.length]; exact dpAll_len hq
  refine SeqAt.call_tuple_index (vs := its) (ks := ds.map fun z => PyData.eqv z d) (k := true) pl ⟨by rw [List.length_map]; exact hl, fun j h1 h2 => ?_⟩ hm ⟨.int _, H, I.tok _, ⟨_, rfl⟩, q⟩
  obtain ⟨w, hw, rw_⟩ : ∃ w, ws[j]? = some w ∧ RelV w its[j] := by
    have hj : j < ws.length := by rw [r.length]; exact h1
    obtain ⟨w, hw, rw_⟩ := r.get (List.getElem?_eq_getElem hj)
    exact ⟨ws[j], List.getElem?_eq_getElem hj, by rw [List.getElem?_eq_getElem h1] at hw; cases hw; exact rw_⟩
  have hj : j < ds.length := by omega
  obtain ⟨e, he1, he2⟩ := itemsE I X.A.in1 hq hd r ru (by rw [in1_units]; omega)
  obtain ⟨y', d', f1, f2, f3⟩ := he2 j h1
  rw [List.getElem?_eq_getElem h1] at f1
  cases f1
  have := he1 its[j] (List.getElem_mem h1)
  rw [f3] at this
  rw [List.getElem?_eq_getElem hj] at f2
  cases f2
  rw [List.getElem_map]
  simpa using this
end
end RG
namespace RG
open PySem PySem.Spec PyProof.Rows L2 StX RZ

/-! ### own classes -/
/-- data of an own class: its name, the names of its fields -/
class PyO (α : Type) extends Py α where
  cn : Str
  fns : List Str
  ins : ∀ {W : Wd} {H : Hp} {v : V} {x : α}, rep W H v x → ∃ a dx fs, v = .ref a ∧ H a = some (.ins (W.C cn) dx fs) ∧ fs.map (·.1) = fns
theorem lookup_none {fs : List (Str × V)} {m : Str} (h : (fs.map (·.1)).contains m = false) : fs.lookup m = none := by
  induction fs with
  | nil => rfl
  | cons p t ih =>
    obtain ⟨k, v⟩ := p
    simp only [List.map_cons, List.contains_cons, Bool.or_eq_false_iff] at h
    rw [List.lookup_cons, h.1]
    exact ih h.2
section
variable {α β γ δ ε : Type} [Py α] [Py β] [Py γ] [Py δ] [Py ε] {W : Wd} {M M' N : List Addr} {σ σ' : L2.St} {H H1 H2 H' : Hp} {te ta tb tc tl : TE} {tr : TA} {x : α} {y : β} {v : V} {E : XK} {i : Nat}
theorem Rep.ins {ω : Type} [PyO ω] {x : ω} (h : Rep W M H v x) : ∃ a dx fs, v = .ref a ∧ H a = some (.ins (W.C (PyO.cn ω)) dx fs) ∧ fs.map (·.1) = PyO.fns ω := PyO.ins (W := W) (H := H) h.at

/-! ### texts -/
theorem ev_join {z : Str} {xs : List Str} (ha : Ev W M ta σ H z) (hb : Ev W M tb σ H xs) (hl : (xs.map (·.length)).sum + xs.length * z.length ≤ 16777216) : Ev W M (tM1 (rJoin W.K) ta tb) σ H (Txt.join z xs) := fun H1 e ok Q q =>
  ha H1 e ok _ fun v H2 e2 r => ⟨⟨z, r⟩, hb H2 (e.trans e2) (ok.ex e2) _ fun u H3 e3 r3 => by
    obtain ⟨a, vs, ev, hh, _, _, pp⟩ := r3.lst
    exact ⟨z, a, xs, r, by rw [ev], .inl (SqL.of (by rw [hh, paired_toV pp]; rfl)), hl, q _ H3 (e2.trans e3) rep_str⟩⟩
theorem evr_join {z : Str} {P : List Str → Prop} {R : Str → Prop} (ha : Ev W M ta σ H z) (hb : EvR W M tb σ H P) (hl : ∀ xs, P xs → (xs.map (·.length)).sum + xs.length * z.length ≤ 16777216 ∧ R (Txt.join z xs)) : EvR W M (tM1 (rJoin W.K) ta tb) σ H R := fun H1 e ok Q q =>
  ha H1 e ok _ fun v H2 e2 r => ⟨⟨z, r⟩, hb H2 (e.trans e2) (ok.ex e2) _ fun u xs H3 px e3 r3 => by
    obtain ⟨a, vs, ev, hh, _, _, pp⟩ := r3.lst
    exact ⟨z, a, xs, r, by rw [ev], .inl (SqL.of (by rw [hh, paired_toV pp]; rfl)), (hl xs px).1, q _ _ H3 (hl xs px).2 (e2.trans e3) rep_str⟩⟩
theorem ev_split {z w : Str} (ha : Ev W M ta σ H z) (hb : Ev W M tb σ H w) (hw : (w.length == 0) = false) (hl : z.length ≤ 1000000) : Ev W M (tM1 rSplit ta tb) σ H (Txt.split z w) := fun H1 e ok Q q =>
  ha H1 e ok _ fun v H2 e2 r => ⟨⟨z, r⟩, hb H2 (e.trans e2) (ok.ex e2) _ fun u H3 e3 r3 =>
    ⟨z, w, r, by rw [show u = .str w from r3], hw, Nat.le_trans (Nat.add_le_add_right hl 2) (by decide), fun p hp => q _ _ ((e2.trans e3).trans (Ex.new hp)) (rep_lst upd_same (((ok.ex e2).ex e3).new_b hp) (((ok.ex e2).ex e3).new_M hp) toV_paired)⟩⟩
theorem ev_mulS {z : Str} {b : Bool} (ha : Ev W M ta σ H z) (hb : Ev W M tb σ H (if b then 1 else 0 : Int)) : Ev W M (tOp rMulS ta tb) σ H (if b then z else Str.empty) := fun H1 e ok Q q =>
  ha H1 e ok _ fun v H2 e2 r => hb H2 (e.trans e2) (ok.ex e2) _ fun u H3 e3 r3 => ⟨z, _, r, r3, by
    cases b with
    | true => exact .inr ⟨rfl, q _ H3 (e2.trans e3) rep_str⟩
    | false => exact .inl ⟨rfl, q _ H3 (e2.trans e3) rep_str⟩⟩
theorem ev_mulT {xs : Tup α} {k : Int} (ha : Ev W M ta σ H xs) (hb : Ev W M tb σ H k) (h0 : xs.l ≠ []) (h1 : 1 ≤ k) (h2 : k ≤ 1000) (h3 : xs.l.length ≤ 1000) : Ev W M (tOp (rMulT W.K) ta tb) σ H (Tup.mk (List.replicate k.toNat xs.l).flatten) := fun H1 e ok Q q =>
  ha H1 e ok _ fun v H2 e2 r => hb H2 (e.trans e2) (ok.ex e2) _ fun u H3 e3 r3 => by
    obtain ⟨a, vs, ev, hh, nb, hm, pp⟩ := (r.up e3).tup
    subst ev
    have ok3 := (ok.ex e2).ex e3
    have rp : ∀ n : Nat, Paired (Rep W M H3) (List.replicate n vs).flatten (List.replicate n xs.l).flatten := fun n => by
      induction n with
      | zero => exact .nil
      | succ n ih => rw [List.replicate_succ, List.replicate_succ, List.flatten_cons, List.flatten_cons]; exact Pd.append pp ih
    refine ⟨a, k, vs, rfl, r3, .inl hh, ?_, h1, h2, by rw [Pd.length pp]; exact h3, fun z => ?_, fun p hp => ?_⟩
    · intro z; subst z; exact h0 (by cases h : xs.l with
        | nil => rfl
        | cons _ _ => rw [h] at pp; cases pp)
    · subst z
      refine q _ _ (e2.trans e3) (rep_tup hh nb hm ?_)
      simpa using pp
    · refine q _ _ ((e2.trans e3).trans (Ex.new hp)) (rep_tup (.inl upd_same) (ok3.new_b hp) (ok3.new_M hp) (Pd.mono (rp k.toNat) fun _ _ r => r.up (Ex.new hp)))
/-- list(range(n)) -/
theorem ev_listRg {n : Int} (ha : Ev W M ta σ H n) (h0 : 0 ≤ n) (h1 : n ≤ 1000000) : Ev W M (tLstRg (tRg1 ta)) σ H (rng n) := fun H1 e ok Q q =>
  ha H1 e ok _ fun v H2 e2 r => ⟨n, r, RgOk.of_le (by omega) (by omega) (by omega) (by omega), fun p hp => q _ _ (e2.trans (Ex.new hp)) (rep_lst upd_same ((ok.ex e2).new_b hp) ((ok.ex e2).new_M hp) (by
    have e : rgV 0 n = (rng n).map PyS.toV := by
      unfold rgV rng
      rw [List.map_map, Int.sub_zero]
      refine List.map_congr_left fun i _ => ?_
      show V.int (0 + (i : Nat)) = V.int _
      rw [Int.zero_add]
    rw [e]; exact toV_paired))⟩
theorem ev_rev {xs : List α} (ha : Ev W M ta σ H xs) : Ev W M (tRevL W.K ta) σ H xs.reverse := fun H1 e ok Q q =>
  ha H1 e ok _ fun v H2 e2 r => by
    obtain ⟨a, vs, ev, hh, hb, hm, pp⟩ := r.lst
    exact ⟨a, vs, ev, SqL.of hh, fun p hp => q _ _ (e2.trans (Ex.new hp)) (rep_lst upd_same ((ok.ex e2).new_b hp) ((ok.ex e2).new_M hp) (Pd.mono (Pd.rev pp) fun _ _ r => r.up (Ex.new hp)))⟩

/-! ### instances -/
/-- e.f, a field -/
theorem ev_fld {ω : Type} [PyO ω] {o : ω} {f : Str} {y : β} (ha : Ev W M ta σ H o) (c : Cls W.K (W.C (PyO.cn ω))) (n : NoAttr W.K (W.C (PyO.cn ω)) f)
    (hf : ∀ {v H2}, Rep W M H2 v o → ∀ {a dx fs}, v = .ref a → H2 a = some (.ins (W.C (PyO.cn ω)) dx fs) → ∃ u, fs.lookup f = some u ∧ Rep W M H2 u y) : Ev W M (tFld W.K ta f) σ H y := fun H1 e ok Q q =>
  ha H1 e ok _ fun v H2 e2 r => by
    obtain ⟨a, dx, fs, ev, hh, _⟩ := r.ins
    obtain ⟨u, hu, ru⟩ := hf r ev hh
    exact ⟨a, _, dx, fs, u, ev, hh, c, n, hu, q _ H2 e2 ru⟩
theorem ev_prop {ω : Type} [PyO ω] {o : ω} {pre : ω → Prop} {f : ω → β} (ha : Ev W M ta σ H o) (hp : pre o) : Ev W M (tProp (W.C (PyO.cn ω)) (F1 W.K W.C pre f) [] E ta) σ H (f o) := fun H1 e ok Q q =>
  ha H1 e ok _ fun v H2 e2 r => by
    obtain ⟨a, dx, fs, ev, hh, _⟩ := r.ins
    subst ev
    exact ⟨a, dx, fs, rfl, hh, W, M, _, o, rfl, rfl, rfl, ok.ex e2, r, hp, fun r H3 e3 rr => q r H3 (e2.trans e3) rr⟩
theorem ev_m0 {ω : Type} [PyO ω] {o : ω} {pre : ω → Prop} {f : ω → β} {m : Str} (ha : Ev W M ta σ H o) (hp : pre o) (hm : (PyO.fns ω).contains m = false) : Ev W M (tMeth (W.C (PyO.cn ω)) m (F1 W.K W.C pre f) [] E ta tNil) σ H (f o) := fun H1 e ok Q q =>
  ha H1 e ok _ fun v H2 e2 r => by
    obtain ⟨a, dx, fs, ev, hh, hf⟩ := r.ins
    exact ⟨a, dx, fs, ev, hh, lookup_none (by rw [hf]; exact hm), W, M, _, o, rfl, rfl, rfl, ok.ex e2, r, hp, fun r H3 e3 rr => q r H3 (e2.trans e3) rr⟩
theorem ev_m1 {ω : Type} [PyO ω] {o : ω} {pre : ω → α → Prop} {f : ω → α → β} {m : Str} (ha : Ev W M ta σ H o) (hb : Ev W M tb σ H x) (hp : pre o x) (hm : (PyO.fns ω).contains m = false) : Ev W M (tMeth (W.C (PyO.cn ω)) m (F2 W.K W.C pre f) [] E ta (tCons tb tNil)) σ H (f o x) := fun H1 e ok Q q =>
  ha H1 e ok _ fun v H2 e2 r => by
    obtain ⟨a, dx, fs, ev, hh, hf⟩ := r.ins
    exact ⟨a, dx, fs, ev, hh, lookup_none (by rw [hf]; exact hm), hb H2 (e.trans e2) (ok.ex e2) _ fun u H3 e3 r3 =>
      ⟨W, M, v, u, o, x, rfl, rfl, rfl, (ok.ex e2).ex e3, r.up e3, r3, hp, fun r H4 e4 rr => q r H4 ((e2.trans e3).trans e4) rr⟩⟩
theorem ev_m2 {ω : Type} [PyO ω] {o : ω} {pre : ω → α → β → Prop} {f : ω → α → β → γ} {m : Str} (ha : Ev W M ta σ H o) (hb : Ev W M tb σ H x) (hc : Ev W M tc σ H y) (hp : pre o x y) (hm : (PyO.fns ω).contains m = false) :
    Ev W M (tMeth (W.C (PyO.cn ω)) m (F3 W.K W.C pre f) [] E ta (tCons tb (tCons tc tNil))) σ H (f o x y) := fun H1 e ok Q q =>
  ha H1 e ok _ fun v H2 e2 r => by
    obtain ⟨a, dx, fs, ev, hh, hf⟩ := r.ins
    exact ⟨a, dx, fs, ev, hh, lookup_none (by rw [hf]; exact hm), hb H2 (e.trans e2) (ok.ex e2) _ fun u H3 e3 r3 => hc H3 ((e.trans e2).trans e3) ((ok.ex e2).ex e3) _ fun w H4 e4 r4 =>
      ⟨W, M, v, u, w, o, x, y, rfl, rfl, rfl, ((ok.ex e2).ex e3).ex e4, (r.up e3).up e4, r3.up e4, r4, hp, fun r H5 e5 rr => q r H5 (((e2.trans e3).trans e4).trans e5) rr⟩⟩
theorem ev_own {ω : Type} [PyO ω] {o : ω} {pre : ω → α → Prop} {f : ω → α → Bool} {neg : Bool} (ha : Ev W M ta σ H x) (hb : Ev W M tb σ H o) (hp : pre o x) : Ev W M (tOp (rInOwn (W.C (PyO.cn ω)) (F2 W.K W.C pre f) neg) ta tb) σ H (if neg then !f o x else f o x) := fun H1 e ok Q q =>
  ha H1 e ok _ fun v H2 e2 r => hb H2 (e.trans e2) (ok.ex e2) _ fun u H3 e3 r3 => by
    obtain ⟨a, dx, fs, ev, hh, hf⟩ := r3.ins
    exact ⟨a, dx, fs, ev, hh, W, M, u, v, o, x, rfl, rfl, rfl, (ok.ex e2).ex e3, r3, r.up e3, hp, fun r H4 e4 rr => ⟨f o x, rr, q _ H4 ((e2.trans e3).trans e4) rep_bl⟩⟩
theorem ev_lenO {ω : Type} [PyO ω] {o : ω} {pre : ω → Prop} {f : ω → Int} (ha : Ev W M ta σ H o) (hp : pre o) (h0 : 0 ≤ f o) (h1 : f o < 2 ^ 63) : Ev W M (tCB (rLenOwn (W.C (PyO.cn ω)) (F1 W.K W.C pre f)) (tCons ta tNil)) σ H (f o) := fun H1 e ok Q q =>
  ha H1 e ok _ fun v H2 e2 r => by
    obtain ⟨a, dx, fs, ev, hh, hf⟩ := r.ins
    subst ev
    exact ⟨a, dx, fs, rfl, hh, W, M, _, o, rfl, rfl, rfl, ok.ex e2, r, hp, fun r H4 e4 rr => ⟨f o, rr, h0, h1, q _ H4 (e2.trans e4) rep_int⟩⟩
/-- what __init__ promises: the new instance holds what f tells -/
def I1 (K : PySem.W.Frag) (C : Str → Addr) (cn : Str) (pre : α → Prop) (f : α → β) : Sp := fun vs H Q _ => ∃ (W : Wd) (M : List Addr) (a dx : Addr) (v : V) (x : α), W.K = K ∧ W.C = C ∧ vs = [.ref a, v] ∧ Ok W (a :: dx :: M) H ∧ a ≠ W.b ∧ a ≠ W.bl ∧ a ∉ M ∧
  H a = some (.ins (C cn) dx []) ∧ Rep W (a :: dx :: M) H v x ∧ pre x ∧ ∀ H', Ex W [a] H H' → Rep W M H' (.ref a) (f x) → Q .non H'
theorem ev_make {cn : Str} {pre : α → Prop} {f : α → β} (ha : Ev W M ta σ H x) (hp : pre x) : Ev W M (tMake (W.C cn) (I1 W.K W.C cn pre f) [] E (tCons ta tNil)) σ H (f x) := fun H1 e ok Q q =>
  ha H1 e ok _ fun v H2 e2 r a dx hx hd hn => by
    have ok2 := ok.ex e2
    have hd' : upd H2 dx (.own a) a = none := by rw [upd_ne (Ne.symm hn)]; exact hx
    have okd := ok2.grow (o := .own a) hd
    refine ⟨W, M, a, dx, v, x, rfl, rfl, rfl, okd.grow hd', okd.new_b hd', okd.new_bl hd', ok2.new_M hx, upd_same, (r.grow hd).grow hd', hp, fun H3 e3 rr => ⟨rfl, q _ H3 ?_ rr⟩⟩
    have e4 : Ex W [] H2 (upd (upd H2 dx (.own a)) a (.ins (W.C cn) dx [])) := (Ex.new hd).trans (Ex.new hd')
    refine e2.trans ⟨fun b o nb _ hb => e3.keep b o nb (fun z => ?_) (e4.keep b o nb (by simp) hb), fun b hb => e3.some_ b (e4.some_ b hb), fun z => e3.bag (e4.bag z)⟩
    have : b = a := by simpa using z
    rw [this, hx] at hb
    cases hb
end
end RG
namespace RG
open PySem PySem.Spec PyProof.Rows L2 StX RZ

/-- the same rule, its reading told otherwise -/
theorem PE.to {X : Cx} {e : Expr} {t u : TE} (h : PE X e t) (q : t = u) : PE X e u := q ▸ h
theorem PT.to {X : Cx} {e : Expr} {t u : TT} (h : PT X e t) (q : t = u) : PT X e u := q ▸ h
theorem PI.to {X : Cx} {tg e : Expr} {t u : TI} (h : PI X tg e t) (q : t = u) : PI X tg e u := q ▸ h
/-- the built-in names, not bound by the text -/
structure Bt (mg : Str → Option Value) : Prop where
  len_ : mg "len" = none
  isinstance_ : mg "isinstance" = none
  str_ : mg "str" = none
  int_ : mg "int" = none
  list_ : mg "list" = none
  tuple_ : mg "tuple" = none
  all_ : mg "all" = none
  any_ : mg "any" = none
  range_ : mg "range" = none
  abs_ : mg "abs" = none
  max_ : mg "max" = none
  min_ : mg "min" = none
  sum_ : mg "sum" = none
  enumerate_ : mg "enumerate" = none
  zip_ : mg "zip" = none
  set_ : mg "set" = none
  dict_ : mg "dict" = none
  bool_ : mg "bool" = none
  sorted_ : mg "sorted" = none
  reversed_ : mg "reversed" = none
  iter_ : mg "iter" = none
section
variable {X : Cx} {x : Str} {pos : Pos}
/-- a constant of the module -/
theorem pe_gI {n : Int} (hg : Gl X x) (hm : ∃ t, X.mg x = some (.int n t)) (hd : (x == ("__debug__" : Str)) = false := by decide) : PE X (.Name x pos) (tC (.int n)) :=
  let ⟨t, e⟩ := hm; pe_glob hg e ⟨t, rfl⟩ hd
theorem pe_gS {n : Str} (hg : Gl X x) (hm : ∃ t, X.mg x = some (.str n t)) (hd : (x == ("__debug__" : Str)) = false := by decide) : PE X (.Name x pos) (tC (.str n)) :=
  let ⟨t, e⟩ := hm; pe_glob hg e ⟨t, rfl⟩ hd
end
section
variable {α β γ : Type} [Py α] [Py β] [Py γ] {W : Wd} {M M' N : List Addr} {σ σ' : L2.St} {H H1 H2 H' : Hp} {te ta tb tc tl : TE} {tr : TA} {x : α} {y : β} {v : V} {E : XK} {i k l : Nat}
theorem signs_one {z s : Str} (h : s ∈ signs z) : ∃ c, s = ⟨#[c]⟩ ∧ c ∈ z.cps.toList := by
  unfold signs at h
  obtain ⟨c, hc, rfl⟩ := List.mem_map.mp h
  exact ⟨c, rfl, hc⟩
/-- the sign of a text of one sign -/
def sgn (s : Str) : Nat := s.cps.getD 0 0
def inS (z s : Str) : Bool := decide (sgn s ∈ z.cps.toList)
theorem ev_inS {z s : Str} (ha : Ev W M ta σ H s) (hb : Ev W M tb σ H z) (hs : ∃ c, s = ⟨#[c]⟩) : Ev W M (tOp rInS ta tb) σ H (inS z s) := fun H1 e ok Q q =>
  ha H1 e ok _ fun v H2 e2 r => hb H2 (e.trans e2) (ok.ex e2) _ fun u H3 e3 r3 => by
    obtain ⟨c, rfl⟩ := hs
    exact ⟨c, z, r, r3, q _ H3 (e2.trans e3) rep_bl⟩
/-- in a comprehension: an outer name -/
theorem Sl.lc {vs : List Nat} (h : Sl W M σ H i x) (l : Le (cut W M H) (cut W M' H')) (n : i ∉ vs := by decide) (n2 : i ≠ k := by decide) : Sl W M' ((L2.wipe σ vs).set k (some v)) H' i x := ((h.le l).wipe n).set Ex.refl n2
theorem Sl.lc2 {vs : List Nat} {u : V} (h : Sl W M σ H i x) (l1 : Le (cut W M H) (cut W M' H')) (n : i ∉ vs := by decide) (n2 : i ≠ k := by decide) (n3 : i ≠ l := by decide) : Sl W M' (((L2.wipe σ vs).set k (some v)).set l (some u)) H' i x := (((h.le l1).wipe n).set Ex.refl n2).set Ex.refl n3
theorem wipe_len {vs : List Nat} {σ : L2.St} : (L2.wipe σ vs).length = σ.length := by
  induction vs with
  | nil => rfl
  | cons a t ih => show ((L2.wipe σ t).set a none).length = _; rw [List.length_set]; exact ih
/-- .. its own name -/
theorem Sl.me {vs : List Nat} (r : Rep W M H v x) (h : k < σ.length := by first | decide | (simp only [List.length_set, wipe_len, L2.start, List.length_append, List.length_map, List.length_replicate, List.length_cons, List.length_nil]; decide)) : Sl W M ((L2.wipe σ vs).set k (some v)) H k x := Sl.here r (by rw [wipe_len]; exact h)
theorem Sl.hr (r : Rep W M H v x) (h : k < σ.length := by first | decide | (simp only [List.length_set, wipe_len, L2.start, List.length_append, List.length_map, List.length_replicate, List.length_cons, List.length_nil]; decide)) : Sl W M (σ.set k (some v)) H k x := Sl.here r h
/-- the i-th value of a filled list is another one now -/
theorem s_setAt {xs : List α} {n : Int} {p : Addr} {D : Ends} {ti : TE} (ok : Ok W M H) (hA : Acc W M σ H k p xs) (h : Ev W M te σ H x) (hi : Ev W M ti σ H n) (h0 : 0 ≤ n) (h1 : n < xs.length)
    (q : ∀ H', Ex W M H H' → (∀ G, Ex W [] G H → Ok W N G → G p = none → Ex W [] G H') → Ok W M H' → Acc W M σ H' k p (xs.set n.toNat x) → D.nx σ H') : tAsg te (gSub (tVar k) ti rSetL) D σ H := by
  refine h H Ex.refl ok _ fun v H2 e2 r => ?_
  refine ⟨.ref p, hA.at_, ?_⟩
  refine hi H2 e2 (ok.ex e2) _ fun u H3 e3 r3 => ?_
  have e23 := e2.trans e3
  obtain ⟨vs, hp, pp⟩ := (hA.up e23).it
  have em : Ex W M H3 (upd H3 p (.lst (vs.set n.toNat v))) := Ex.mut hA.nb hA.nbl hA.mem
  refine ⟨p, vs, n, n.toNat, rfl, r3, hp, ?_, q _ (e23.up.trans em) (fun G eG okG hG => (eG.trans e23).mut0 okG hG) ((ok.ex e23).ex em) ⟨hA.at_, hA.nb, hA.nbl, hA.mem, vs.set n.toNat v, upd_same, ?_⟩⟩
  · unfold ixN
    rw [if_pos h0, if_pos (by rw [Pd.length pp]; exact h1)]
  · exact Pd.set _ (Pd.mono pp fun _ _ r => r.ex em) ((r.up e3).ex em)
end
end RG
namespace RG
open PySem PySem.Spec PyProof.Rows L2 StX RZ
section
variable {α β γ : Type} [Py α] [Py β] [Py γ] {W : Wd} {M M' N : List Addr} {σ σ' : L2.St} {H H1 H2 H' : Hp} {te ta tb tc tl ti : TE} {tr : TA} {x : α} {y : β} {v : V} {E : XK} {i k l f : Nat} {D : Ends} {p pf pl : Addr} {tt : TT} {ts : TS}
theorem le_sub (h : ∀ a ∈ M, a ∈ N) : Le (cut W N H) (cut W M H) := ⟨fun a o q => by
  obtain ⟨h1, h2, h3⟩ := cut_some.mp q
  exact cut_some.mpr ⟨h1, fun z => h2 (h a z), h3⟩⟩
theorem Ok.sub (h : Ok W N H) (hs : ∀ a ∈ M, a ∈ N) : Ok W M H := ⟨h.bag, fun a m => h.laid a (hs a m)⟩
theorem Rep.subM (h : Rep W N H v x) (hs : ∀ a ∈ M, a ∈ N) : Rep W M H v x := h.le (le_sub hs)
theorem Sl.subM (h : Sl W N σ H i x) (hs : ∀ a ∈ M, a ∈ N) : Sl W M σ H i x := h.le (le_sub hs)
/-- a filled list, as data for the time being -/
theorem Acc.out {xs : List α} (h : Acc W N σ H k p xs) (hs : ∀ a ∈ M, a ∈ N) (hm : p ∉ M) : Sl W M σ H k xs :=
  let ⟨vs, hh, pp⟩ := h.it; ⟨.ref p, h.at_, rep_lst hh h.nb hm (Pd.mono pp fun _ _ r => r.subM hs)⟩
/-- a scalar is the same, whatever is under change -/
theorem Ev.sc {δ : Type} [DecidableEq δ] [PyS δ] {z : δ} (h : Ev W M te σ H z) (hs : ∀ a ∈ M, a ∈ N) : Ev W N te σ H z := fun H1 e ok Q q => h H1 e (ok.sub hs) Q fun v H2 e2 r => q v H2 e2 (by rw [r.toV]; exact rep_toV)
theorem EvR.sc {δ : Type} [DecidableEq δ] [PyS δ] {P : δ → Prop} (h : EvR W M te σ H P) (hs : ∀ a ∈ M, a ∈ N) : EvR W N te σ H P := fun H1 e ok Q q => h H1 e (ok.sub hs) Q fun v z H2 pz e2 r => q v z H2 pz e2 (by rw [r.toV]; exact rep_toV)
/-- xs = list(e), a list that will be changed -/
theorem s_list {xs : List α} (ok : Ok W M H) (h : Ev W M te σ H xs) (hk : k < σ.length)
    (q : ∀ p H', H p = none → Ex W [] H H' → Le (cut W M H) (cut W (p :: M) H') → Ok W (p :: M) H' → Acc W (p :: M) (σ.set k (some (.ref p))) H' k p xs → D.nx (σ.set k (some (.ref p))) H') : tAsg (tCB (rListOf W.K) (tCons te tNil)) (gName k) D σ H :=
  h H Ex.refl ok _ fun v H2 e2 r => by
    obtain ⟨a, vs, ev, hh, _, _, pp⟩ := r.lst
    have ok2 := ok.ex e2
    refine ⟨a, vs, by rw [ev], .inl (SqL.of hh), fun p hp => q p _ (e2.free hp) (e2.trans (Ex.new hp)) (e2.up.le.trans (le_new hp)) (ok2.grow hp) ⟨by rw [List.getElem?_set_self hk], ok2.new_b hp, ok2.new_bl hp, List.mem_cons_self, vs, upd_same, Pd.mono pp fun _ _ r => r.grow hp⟩⟩
/-- a new list, empty: the same in the terms of M -/
theorem s_new2 (ok : Ok W M H) (hk : k < σ.length) (q : ∀ p H', H p = none → Ex W [] H H' → Le (cut W M H) (cut W (p :: M) H') → Ok W (p :: M) H' → Acc W (p :: M) (σ.set k (some (.ref p))) H' k p ([] : List α) → D.nx (σ.set k (some (.ref p))) H') : tAsg (tLst tNil) (gName k) D σ H :=
  s_new ok fun p hp e le ok' => q p _ hp e le ok' (Acc.new ok hp hk)
/-- M is grown by another address: a filled list stays -/
theorem Acc.le {xs : List α} (h : Acc W M σ H k p xs) (hp : H' p = H p) (hm : p ∈ M') (l : Le (cut W M H) (cut W M' H')) : Acc W M' σ H' k p xs :=
  ⟨h.at_, h.nb, h.nbl, hm, let ⟨vs, hh, pp⟩ := h.it; ⟨vs, by rw [hp]; exact hh, Pd.mono pp fun _ _ r => r.le l⟩⟩
/-- xs.append(ys.pop(i)) -/
theorem s_appPop {xs ys : List α} (ok : Ok W N H) (hF : Acc W N σ H f pf xs) (hL : Acc W N σ H l pl ys) (hne : pf ≠ pl) (hz : xs.length ≤ 1000000) (hz2 : ys.length ≤ 1000000) (hi : EvR W N ti σ H fun n : Int => 0 ≤ n ∧ n < ys.length)
    (q : ∀ (j : Nat) (y : α) H', ys[j]? = some y → Ex W N H H' → (∀ G M0, Ex W [] G H → Ok W M0 G → G pf = none → G pl = none → Ex W [] G H') → Ok W N H' → Acc W N σ H' f pf (xs ++ [y]) → Acc W N σ H' l pl (ys.eraseIdx j) → D.nx σ H') :
    tDrop (tBM W.K "list" rAppend (tVar f) (tCons (tBM W.K "list" rPopAt (tVar l) (tCons ti tNil)) tNil)) D σ H := by
  obtain ⟨vs, hp, pp⟩ := hF.it
  obtain ⟨us, hp2, pp2⟩ := hL.it
  refine ⟨.ref pf, hF.at_, .inl ⟨rfl, vs, SqL.of hp⟩, .ref pl, hL.at_, .inl ⟨rfl, us, SqL.of hp2⟩, hi H Ex.refl ok _ fun v n H2 pn e2 r => ?_⟩
  obtain ⟨h0, h1⟩ := pn
  have hj : n.toNat < ys.length := by omega
  obtain ⟨u, hu, ru⟩ := Pd.get pp2 (List.getElem?_eq_getElem hj)
  have hq2 := e2.keep _ _ hL.nb (by simp) hp2
  have hq := e2.keep _ _ hF.nb (by simp) hp
  refine ⟨pl, us, n, n.toNat, u, rfl, by rw [show v = .int n from r], hq2, by omega, by omega, ?_, hu, ?_⟩
  · unfold seqIndex?
    rw [Pd.length pp2]
    have e : (if n < 0 then n + (ys.length : Int) else n) = n := if_neg (by omega)
    simp only [e]
    rw [if_pos (by simp; omega)]
  have em : Ex W N H2 (upd H2 pl (.lst (us.eraseIdx n.toNat))) := Ex.mut hL.nb hL.nbl hL.mem
  have ok2 := (ok.ex e2).ex em
  have hq3 : upd H2 pl (.lst (us.eraseIdx n.toNat)) pf = some (.lst vs) := by rw [upd_ne hne]; exact hq
  refine ⟨pf, vs, u, rfl, rfl, hq3, by rw [Pd.length pp]; exact sl hz, ?_⟩
  have em2 : Ex W N (upd H2 pl (.lst (us.eraseIdx n.toNat))) (upd (upd H2 pl (.lst (us.eraseIdx n.toNat))) pf (.lst (vs ++ [u]))) := Ex.mut hF.nb hF.nbl hF.mem
  have ee := em.trans em2
  refine q n.toNat _ _ (List.getElem?_eq_getElem hj) (e2.up.trans ee) (fun G M0 eG okG g1 g2 => ((eG.trans e2).mut0 okG g2).mut0 okG g1) (ok2.ex em2) ⟨hF.at_, hF.nb, hF.nbl, hF.mem, _, upd_same, ?_⟩ ⟨hL.at_, hL.nb, hL.nbl, hL.mem, us.eraseIdx n.toNat, by rw [upd_ne hne.symm, upd_same], ?_⟩
  · exact Pd.append (Pd.mono pp fun _ _ r => (r.up e2).ex ee) (.cons ((ru.up e2).ex ee) .nil)
  · exact Pd.erase _ (Pd.mono pp2 fun _ _ r => (r.up e2).ex ee)
/-- xs[i] = e, e one of several -/
theorem s_setAtR {P : α → Prop} {xs : List α} {n : Int} (ok : Ok W M H) (hA : Acc W M σ H k p xs) (h : EvR W M te σ H P) (hi : Ev W M ti σ H n) (h0 : 0 ≤ n) (h1 : n < xs.length)
    (q : ∀ x H', P x → Ex W M H H' → (∀ G M0, Ex W [] G H → Ok W M0 G → G p = none → Ex W [] G H') → Ok W M H' → Acc W M σ H' k p (xs.set n.toNat x) → D.nx σ H') : tAsg te (gSub (tVar k) ti rSetL) D σ H := by
  refine h H Ex.refl ok _ fun v x H2 px e2 r => ?_
  refine ⟨.ref p, hA.at_, ?_⟩
  refine hi H2 e2 (ok.ex e2) _ fun u H3 e3 r3 => ?_
  have e23 := e2.trans e3
  obtain ⟨vs, hp, pp⟩ := (hA.up e23).it
  have em : Ex W M H3 (upd H3 p (.lst (vs.set n.toNat v))) := Ex.mut hA.nb hA.nbl hA.mem
  refine ⟨p, vs, n, n.toNat, rfl, r3, hp, ?_, q x _ px (e23.up.trans em) (fun G M0 eG okG hG => (eG.trans e23).mut0 okG hG) ((ok.ex e23).ex em) ⟨hA.at_, hA.nb, hA.nbl, hA.mem, vs.set n.toNat v, upd_same, ?_⟩⟩
  · unfold ixN
    rw [if_pos h0, if_pos (by rw [Pd.length pp]; exact h1)]
  · exact Pd.set _ (Pd.mono pp fun _ _ r => r.ex em) ((r.up e3).ex em)
/-- a text, and one of several behind it -/
theorem evr_addS {z : Str} {P : Str → Prop} (ha : Ev W M ta σ H z) (hb : EvR W M tb σ H P) (hl : ∀ w, P w → z.length + w.length ≤ 1000000) : EvR W M (tOp (fun x y H Q => ∃ i j : Str, x = .str i ∧ y = .str j ∧ i.length + j.length ≤ sizeLine ∧ Q (.str (i ++ j)) H) ta tb) σ H (fun r => ∃ w, P w ∧ r = z ++ w) := fun H1 e ok Q q =>
  ha H1 e ok _ fun v H2 e2 r => hb H2 (e.trans e2) (ok.ex e2) _ fun u w H3 pw e3 r3 => ⟨z, w, r, r3, sz (hl w pw), q _ _ H3 ⟨w, pw, rfl⟩ (e2.trans e3) rep_str⟩
/-- an if without else, whose both ways go on with J -/
theorem s_ifc {b : Bool} {J : L2.St → Hp → Prop} {t1 : TS} (ok : Ok W M H) (h : Et W M tt σ H b) (hJ : ∀ σ' H', J σ' H' → D.nx σ' H') (h1 : (∀ σ' H', J σ' H' → D.nx σ' H') → b = true → ∀ H', Ex W [] H H' → Ok W M H' → t1 D σ H') (h2 : b = false → ∀ H', Ex W [] H H' → Ok W M H' → J σ H') : tIfS tt t1 tNext D σ H :=
  s_if ok h (fun hb H' e ok' => h1 hJ hb H' e ok') fun hb H' e ok' => hJ _ _ (h2 hb H' e ok')
/-- the bag's slot, read off -/
theorem bsr (h : σ[i]? = some (some (.ref W.b)) := by rfl) : Bs W σ i := h
theorem ev_vi {n : Int} (h : σ[i]? = some (some (.int n)) := by rfl) : Ev W M (tVar i) σ H n := ev_var ⟨_, h, rep_int⟩
theorem ev_vs {n : Str} (h : σ[i]? = some (some (.str n)) := by rfl) : Ev W M (tVar i) σ H n := ev_var ⟨_, h, rep_str⟩
/-- while -/
theorem while_w {P : Nat → L2.St → Hp → Prop} (m : Nat) (h0 : P m σ H)
    (hs : ∀ m σ' H', P m σ' H' → ∃ b, Et W M tt σ' H' b ∧ Ok W M H' ∧ ∀ H'', Ex W [] H' H'' → Ok W M H'' → (b = true → ∀ N : L2.St → Hp → Prop, (∀ m' σ3 H3, m' < m → P m' σ3 H3 → N σ3 H3) → ts { D with nx := N, ct := N, bk := D.nx } σ' H'') ∧ (b = false → D.nx σ' H'')) : tWhile tt ts D σ H := by
  refine ⟨P, ⟨m, h0⟩, fun m σ' H' p => ?_⟩
  obtain ⟨b, ht, ok, hb⟩ := hs m σ' H' p
  refine ht H' Ex.refl ok _ fun H2 e2 => ?_
  obtain ⟨h1, h2⟩ := hb H2 e2 (ok.ex e2)
  cases b with
  | true => rw [if_pos rfl]; exact ⟨fun σ3 H3 => ∃ m', m' < m ∧ P m' σ3 H3, fun _ _ n => n, h1 rfl _ fun m' σ3 H3 l w => ⟨m', l, w⟩⟩
  | false => rw [if_neg Bool.false_ne_true]; exact h2 rfl
end
end RG
namespace RG
open PySem PySem.Spec PyProof.Rows L2 StX RZ
section
variable {α β γ : Type} [Py α] [Py β] [Py γ] {W : Wd} {M M' N : List Addr} {σ σ' : L2.St} {H H1 H2 H' : Hp} {te ta tb tl : TE} {wi : TI} {g : TG} {tt : TT} {vs : List Nat} {D : Ends} {k l : Nat} {v : V}
/-- a comprehension, with a word of all that it made so far, and the new list's address -/
theorem lc_acc {xs : List α} {P : Nat → List β → Prop} (hi : Ei W M wi σ H xs) (hl : xs.length ≤ 1000000) (h0 : P 0 [])
    (he : ∀ (i : Nat) (x : α) v M' H' us ys, xs[i]? = some x → Le (cut W M H) (cut W M' H') → Ok W M' H' → Rep W M' H' v x → P i ys → Paired (Rep W M' H') us ys → ∀ K : L2.St → Hp → Prop,
      (∀ σ2, wipe σ2 vs = wipe σ vs → EvR W M' te σ2 H' (fun y => P (i + 1) (ys ++ [y])) → K σ2 H') → g v (wipe σ vs) H' K)
    {Q : VK} {H1 : Hp} (e : Ex W [] H H1) (ok : Ok W M H1) (q : ∀ L ys H2, P xs.length ys → H1 L = none → Ex W [] H1 H2 → Rep W M H2 (.ref L) ys → Q (.ref L) H2) : tLc wi g tYes te vs σ H1 Q := by
  refine hi H1 e ok _ fun J S H2 e2 wk s2 => ?_
  intro L hL
  have ok2 := ok.ex e2
  have nb := ok2.new_b hL
  have nbl := ok2.new_bl hL
  have nM := ok2.new_M hL
  have le2 : Le (cut W M H) (cut W M H2) := (e.trans e2).up.le
  refine ⟨fun i m H' => m = xs.length - i ∧ i ≤ xs.length ∧ Ok W (L :: M) H' ∧ S (L :: M) H' ∧ Ex W [] H2 H' ∧ Le (cut W M H) (cut W (L :: M) H') ∧
    ∃ us ys, H' L = some (.lst us) ∧ Paired (Rep W (L :: M) H') us ys ∧ P i ys ∧ us.length ≤ i,
    ⟨xs.length, by simp, Nat.zero_le _, ok2.grow hL, wk.st (le_new hL) s2, Ex.new hL, le2.trans (le_new hL), [], [], upd_same, .nil, h0, Nat.le_refl _⟩, ?_⟩
  rintro i m H' ⟨rfl, hi', ok', s', e', l', us, ys, hL', pp, pr, hz⟩
  by_cases hlt : i < xs.length
  · refine .inr ⟨wk.go s' hlt, fun H3 => i + 1 ≤ xs.length ∧ Ok W (L :: M) H3 ∧ S (L :: M) H3 ∧ Ex W [] H2 H3 ∧ Le (cut W M H) (cut W (L :: M) H3) ∧
      ∃ us ys, H3 L = some (.lst us) ∧ Paired (Rep W (L :: M) H3) us ys ∧ P (i + 1) ys ∧ us.length ≤ i + 1, fun H3 q => ⟨xs.length - (i + 1), by omega, rfl, q⟩, fun v H3 y => ?_⟩
    obtain ⟨x, hx, e3, r⟩ := wk.yld s' ok' y hlt
    have ok3 := ok'.ex e3
    have l3 := l'.trans e3.up.le
    refine he i x v (L :: M) H3 us ys hx l3 ok3 r pr (Pd.mono pp fun _ _ r => r.up e3) _ fun σ2 hw hel => ⟨hw, ?_⟩
    refine et_yes (W := W) (M := L :: M) H3 Ex.refl ok3 _ fun H4 e4 => ?_
    rw [if_pos rfl]
    refine hel H4 e4 (ok3.ex e4) _ fun w z H5 rz e5 r5 => ?_
    have e35 := (e3.trans e4).trans e5
    have ok5 := ok'.ex e35
    have hL5 := e35.keep L _ nb (by simp) hL'
    have em : Ex W (L :: M) H5 (upd H5 L (.lst (us ++ [w]))) := Ex.mut nb nbl (List.mem_cons_self)
    have e36 : Ex W (L :: M) H' (upd H5 L (.lst (us ++ [w]))) := e35.up.trans em
    exact ⟨us, hL5, Nat.lt_of_le_of_lt hz (sl (by omega)), hlt, ok5.ex em, wk.st e36.le s', (e'.trans e35).mut0 ok2 hL, l'.trans e36.le, us ++ [w], ys ++ [z], upd_same,
      Pd.append (Pd.mono pp fun _ _ r => r.ex e36) (.cons (r5.ex em) .nil), rz, by rw [List.length_append]; simp; omega⟩
  · have e5 : i = xs.length := by omega
    subst e5
    exact .inl ⟨wk.stop s' (Nat.le_refl _), q L ys H' pr (e2.free hL) (e2.trans (e'.sub (by simp))) (rep_lst hL' nb nM (Pd.mono pp fun _ _ r => r.less))⟩
end

/-! ### columns whose list is known by its address -/
structure OCol where
  n : Str
  ws : List Str
  a : Addr
def OCol.col (z : OCol) : Str × List Str := (z.n, z.ws)
instance : Py OCol := ⟨fun _ H v z => ∃ T, v = .ref T ∧ Rd H T (.tup [.str z.n, .ref z.a]) ∧ H z.a = some (.lst (z.ws.map V.str)), fun l ⟨T, e, h1, h2⟩ => ⟨T, e, l.rd h1, l.ex _ _ h2⟩⟩
section
variable {W : Wd} {M M' N : List Addr} {σ σ' : L2.St} {H H1 H2 H' G : Hp} {te ta tb tl : TE} {wi : TI} {vs : List Nat} {D : Ends} {k l : Nat} {v : V} {z : OCol} {L : Addr} {zs : List OCol}
theorem Rep.ocol (h : Rep W M H v z) : ∃ T, v = .ref T ∧ Rd H T (.tup [.str z.n, .ref z.a]) ∧ T ≠ W.b ∧ T ∉ M ∧ H z.a = some (.lst (z.ws.map V.str)) ∧ z.a ≠ W.b ∧ z.a ∉ M := by
  obtain ⟨T, e, h1, h2⟩ := h
  obtain ⟨a1, a2, a3⟩ := rd_cut.mp h1
  obtain ⟨b1, b2, b3⟩ := cut_some.mp h2
  exact ⟨T, e, a3, a1, a2, b3, b1, b2⟩
theorem rep_ocol {T : Addr} (h1 : Rd H T (.tup [.str z.n, .ref z.a])) (h2 : T ≠ W.b) (h3 : T ∉ M) (h4 : H z.a = some (.lst (z.ws.map V.str))) (h5 : z.a ≠ W.b) (h6 : z.a ∉ M) : Rep W M H (.ref T) z :=
  ⟨T, rfl, rd_cut.mpr ⟨h2, h3, h1⟩, cut_some.mpr ⟨h5, h6, h4⟩⟩
theorem Rep.col (h : Rep W M H v z) : Rep W M H v z.col := by
  obtain ⟨T, e, h1, h2⟩ := h
  exact ⟨T, _, _, e, h1, rfl, z.a, _, rfl, h2, toV_paired (α := Str) (W := W) (M := M) (H := H)⟩
theorem Rep.cols (h : Rep W M H v zs) : Rep W M H v (zs.map OCol.col) := h.lmap fun _ _ r => r.col
/-- (name, list(worths)) -/
theorem evr_ocol {n : Str} {ws : List Str} {ys : List OCol} {us : List V} (h1 : Sl W M σ H k n) (h2 : Sl W M σ H l ws) (hp : Paired (Rep W M H) us ys) (lg : Le G (cut W M H)) :
    EvR W M (tTup (tCons (tVar k) (tCons (tCB (rListOf W.K) (tCons (tVar l) tNil)) tNil))) σ H (fun z : OCol => z.col = (n, ws) ∧ G z.a = none ∧ ∀ y ∈ ys, y.a ≠ z.a) := fun H1 e ok Q q => by
  obtain ⟨v1, hv1, r1⟩ := h1.up e
  obtain ⟨v2, hv2, r2⟩ := h2.up e
  refine ⟨v1, hv1, v2, hv2, ?_⟩
  obtain ⟨a, vs, rfl, hh, _, _, pp⟩ := r2.lst
  refine ⟨a, vs, rfl, .inl (SqL.of hh), fun p hp' => ⟨by show 2 ≤ sizeLine; decide, fun T hT => ?_⟩⟩
  cases (show v1 = .str n from r1)
  have e1 : Ex W [] H1 (upd H1 p (.lst vs)) := Ex.new hp'
  have ok1 := ok.ex e1
  have npT : p ≠ T := fun z => by rw [← z, upd_same] at hT; cases hT
  have hvs : vs = ws.map V.str := paired_toV pp
  refine q (.ref T) ⟨n, ws, p⟩ _ ⟨rfl, ?_, fun y hy z => ?_⟩ (e1.trans (Ex.new hT)) (rep_ocol (.inl upd_same) (ok1.new_b hT) (ok1.new_M hT) (by rw [upd_ne npT, upd_same, hvs]) (ok.new_b hp') (ok.new_M hp'))
  · cases hg : G p with
    | none => rfl
    | some o =>
      have := e.up.le.ex _ _ (lg.ex _ _ hg)
      rw [cut_at this] at hp'; cases hp'
  · obtain ⟨j, hj⟩ := List.mem_iff_getElem?.mp hy
    obtain ⟨u, _, ru⟩ := Pd.get hp hj
    obtain ⟨_, _, _, _, _, h3, _⟩ := (ru.up e).ocol
    rw [z, hp'] at h3; cases h3
/-- xs = [(name, list(worths)) for name, worths in cs] -/
theorem s_cols {cs : List (Str × List Str)} {f : Nat} (ok : Ok W M H) (hi : Ei W M wi σ H cs) (hl : cs.length ≤ 1000) (hk : k ∈ vs) (hl' : l ∈ vs) (hkl : k ≠ l) (hk2 : k < σ.length) (hl2 : l < σ.length)
    (q : ∀ (L : Addr) (zs : List OCol) (H' : Hp), zs.map OCol.col = cs → (zs.map OCol.a).Nodup → (∀ z ∈ zs, cut W M H z.a = none) → H L = none → Ex W [] H H' → Ok W M H' → Rep W M H' (.ref L) zs → D.nx (σ.set f (some (.ref L))) H') :
    tAsg (tLc wi (gPair W.K k l) tYes (tTup (tCons (tVar k) (tCons (tCB (rListOf W.K) (tCons (tVar l) tNil)) tNil))) vs) (gName f) D σ H := by
  refine lc_acc (P := fun i (zs : List OCol) => zs.map OCol.col = cs.take i ∧ (zs.map OCol.a).Nodup ∧ ∀ z ∈ zs, cut W M H z.a = none) hi (by omega) ⟨rfl, List.nodup_nil, fun z hz => by cases hz⟩ ?_ Ex.refl ok fun L zs H2 hP hL e2 r2 => q L zs H2 (by have := hP.1; rwa [List.take_length] at this) hP.2.1 hP.2.2 hL e2 (ok.ex e2) r2
  intro i x v M' H' us ys hx le ok' r hP pp K hK
  refine gPair_rd r fun v1 v2 r1 r2 => hK _ (by rw [wipe_set hl', wipe_set hk, wipe_wipe]) ?_
  refine (evr_ocol (G := cut W M H) ((Sl.here r1 (by rw [wipe_len]; exact hk2)).set Ex.refl hkl) (Sl.here r2 (by rw [List.length_set, wipe_len]; exact hl2)) pp le).imp fun z hz => ?_
  obtain ⟨h1, h2, h3⟩ := hz
  obtain ⟨p1, p2, p3⟩ := hP
  refine ⟨by rw [List.map_append, p1, List.take_add_one, hx]; show _ ++ [z.col] = _; rw [h1]; rfl, ?_, fun y hy => ?_⟩
  · rw [List.map_append, List.nodup_append]
    refine ⟨p2, by simp, fun a ha b hb => ?_⟩
    obtain ⟨y, hy, rfl⟩ := List.mem_map.mp ha
    have : b = z.a := by simpa using hb
    rw [this]
    exact h3 y hy
  · rcases List.mem_append.mp hy with hy | hy
    · exact p3 y hy
    · rw [List.mem_singleton.mp hy]; exact h2
/-- the outer list is none of the inner ones -/
theorem own_out (h : Rep W M H (.ref L) zs) : ∃ us, H L = some (.lst us) ∧ L ≠ W.b ∧ L ∉ M ∧ Paired (Rep W (L :: M) H) us zs ∧ ∀ z ∈ zs, z.a ≠ L := by
  obtain ⟨a, us, e, hh, nb, nm, pp⟩ := h.lst
  cases e
  have no : ∀ z ∈ zs, z.a ≠ L := fun z hz e => by
    obtain ⟨j, hj⟩ := List.mem_iff_getElem?.mp hz
    obtain ⟨u, hu, ru⟩ := Pd.get pp hj
    obtain ⟨T, rfl, _, _, _, h3, _⟩ := ru.ocol
    rw [e, hh] at h3
    have e2 : us = z.ws.map V.str := by injection h3 with h3; injection h3
    rw [e2, List.getElem?_map] at hu
    cases hw : z.ws[j]? with
    | none => rw [hw] at hu; cases hu
    | some s => rw [hw] at hu; cases hu
  refine ⟨us, hh, nb, nm, ?_, no⟩
  have : ∀ {us : List V} {zs : List OCol}, Paired (Rep W M H) us zs → (∀ z ∈ zs, z.a ≠ L) → Paired (Rep W (L :: M) H) us zs := by
    intro us zs hp
    induction hp with
    | nil => intro _; exact .nil
    | @cons u z us zs r _ ih =>
      intro hn
      refine .cons ?_ (ih fun z hz => hn z (List.mem_cons_of_mem _ hz))
      obtain ⟨T, rfl, t1, t2, t3, h3, h4, h5⟩ := r.ocol
      refine rep_ocol t1 t2 (fun hm => ?_) h3 h4 (fun hm => ?_)
      · rcases List.mem_cons.mp hm with e | hm
        · subst e
          rcases t1 with t1 | ⟨o, t1⟩
          · rw [hh] at t1; cases t1
          · rw [hh] at t1; cases t1
        · exact t3 hm
      · rcases List.mem_cons.mp hm with e | hm
        · exact hn z (by simp) e
        · exact h5 hm
  exact this pp no
/-- an inner list is changed -/
theorem own_upd (h : Rep W M H (.ref L) zs) (hn : (zs.map OCol.a).Nodup) {i : Nat} (hz : zs[i]? = some z) (ws' : List Str) : Rep W M (upd H z.a (.lst (ws'.map V.str))) (.ref L) (zs.set i ⟨z.n, ws', z.a⟩) := by
  obtain ⟨us, hh, nb, nm, pp, no⟩ := own_out h
  have hza := no z (List.mem_of_getElem? hz)
  have keep : ∀ {u : V} {y : OCol}, Rep W (L :: M) H u y → y.a ≠ z.a → Rep W (L :: M) (upd H z.a (.lst (ws'.map V.str))) u y := fun {u y} r hy => by
    obtain ⟨T, rfl, t1, t2, t3, h3, h4, h5⟩ := r.ocol
    refine rep_ocol ?_ t2 t3 (by rw [upd_ne hy]; exact h3) h4 h5
    obtain ⟨uz, _, rz⟩ := Pd.get pp hz
    obtain ⟨_, _, _, _, _, z3, _⟩ := rz.ocol
    have nT : T ≠ z.a := fun e => by
      rcases t1 with t1 | ⟨o, t1⟩
      · rw [e, z3] at t1; cases t1
      · rw [e, z3] at t1; cases t1
    rcases t1 with t1 | ⟨o, t1⟩
    · exact .inl (by rw [upd_ne nT]; exact t1)
    · exact .inr ⟨o, by rw [upd_ne nT]; exact t1⟩
  have here : ∀ {u : V}, Rep W (L :: M) H u z → Rep W (L :: M) (upd H z.a (.lst (ws'.map V.str))) u (⟨z.n, ws', z.a⟩ : OCol) := fun {u} r => by
    obtain ⟨T, rfl, t1, t2, t3, h3, h4, h5⟩ := r.ocol
    have nT : T ≠ z.a := fun e => by
      rcases t1 with t1 | ⟨o, t1⟩
      · rw [e, h3] at t1; cases t1
      · rw [e, h3] at t1; cases t1
    refine rep_ocol (z := ⟨z.n, ws', z.a⟩) ?_ t2 t3 upd_same h4 h5
    rcases t1 with t1 | ⟨o, t1⟩
    · exact .inl (by rw [upd_ne nT]; exact t1)
    · exact .inr ⟨o, by rw [upd_ne nT]; exact t1⟩
  have all : ∀ {us : List V} {zs : List OCol} {i : Nat}, Paired (Rep W (L :: M) H) us zs → (zs.map OCol.a).Nodup → zs[i]? = some z → Paired (Rep W (L :: M) (upd H z.a (.lst (ws'.map V.str)))) us (zs.set i ⟨z.n, ws', z.a⟩) := by
    intro us zs i hp
    induction hp generalizing i with
    | nil => intro _ h; simp at h
    | @cons u y us zs r rest ih =>
      intro hn hi
      have hn' := List.nodup_cons.mp (by simpa using hn : (y.a :: zs.map OCol.a).Nodup)
      cases i with
      | zero =>
        simp at hi
        subst hi
        rw [List.set_cons_zero]
        refine .cons (here r) ?_
        have : ∀ {us : List V} {zs : List OCol}, Paired (Rep W (L :: M) H) us zs → (∀ x ∈ zs, x.a ≠ y.a) → Paired (Rep W (L :: M) (upd H y.a (.lst (ws'.map V.str)))) us zs := by
          intro us zs hp
          induction hp with
          | nil => intro _; exact .nil
          | cons r _ ih => intro hx; exact .cons (keep r (hx _ (by simp))) (ih fun x h => hx x (List.mem_cons_of_mem _ h))
        exact this rest fun x hx e => hn'.1 (e ▸ List.mem_map_of_mem hx)
      | succ i =>
        rw [List.set_cons_succ]
        have hi' : zs[i]? = some z := by simpa using hi
        refine .cons (keep r fun e => hn'.1 (e ▸ List.mem_map_of_mem (List.mem_of_getElem? hi'))) (ih hn'.2 hi')
  have hp := all pp hn hz
  exact rep_lst (by rw [upd_ne hza.symm]; exact hh) nb nm (Pd.mono hp fun _ _ r => r.less)
theorem ocol_at {i : Int} (h : Rep W M H (.ref L) zs) (ht : Val tl σ H (.ref L)) (hb : Val tb σ H (.int i)) (hz : atI zs i = some z) : Val (tOp (rIxT W.K) (tOp (rIxL W.K) tl tb) (tC (.int 1))) σ H (.ref z.a) ∧ Val (tOp (rIxT W.K) (tOp (rIxL W.K) tl tb) (tC (.int 0))) σ H (.str z.n) := by
  obtain ⟨us, hh, nb, nm, pp, no⟩ := own_out h
  obtain ⟨u, hu, ru⟩ := Pd.at pp hz
  obtain ⟨T, rfl, t1, t2, t3, h3, h4, h5⟩ := ru.ocol
  exact ⟨fun Q q => ht _ (hb _ ⟨L, us, i, .ref T, rfl, rfl, SqL.of hh, hu, T, _, 1, .ref z.a, rfl, rfl, .inl t1, rfl, q⟩), fun Q q => ht _ (hb _ ⟨L, us, i, .ref T, rfl, rfl, SqL.of hh, hu, T, _, 0, .str z.n, rfl, rfl, .inl t1, rfl, q⟩)⟩
theorem as_tup2 {t1 t2 : TE} {g : TG} (h : t1 σ H fun v1 H1 => t2 σ H1 fun v2 H2 => 2 ≤ sizeLine ∧ ∀ p, H2 p = none → g (.ref p) σ (upd H2 p (.tup [v1, v2])) D.nx) : tAsg (tTup (tCons t1 (tCons t2 tNil))) g D σ H := h
/-- an item is another pair now, its list the same -/
theorem own_set {us : List V} {p : Addr} (ok : Ok W M H) (h : Rep W M H (.ref L) zs) (hL : H L = some (.lst us)) {j : Nat} (hz : zs[j]? = some z) (n' : Str) (hp : H p = none) :
    Rep W M (upd (upd H p (.tup [.str n', .ref z.a])) L (.lst (us.set j (.ref p)))) (.ref L) (zs.set j ⟨n', z.ws, z.a⟩) ∧ Ex W (L :: M) H (upd (upd H p (.tup [.str n', .ref z.a])) L (.lst (us.set j (.ref p)))) := by
  obtain ⟨us', hh, nb, nm, pp, no⟩ := own_out h
  rw [hL] at hh; cases hh
  have npL : p ≠ L := fun e => by rw [e, hL] at hp; cases hp
  have nbl : L ≠ W.bl := fun e => by
    obtain ⟨_, _, _, _, _, _, e3, _⟩ := ok.bag
    rw [← e, hL] at e3
    have e4 : us = W.ns.map V.int := by injection e3 with e3; injection e3
    obtain ⟨u, hu, ru⟩ := Pd.get pp hz
    obtain ⟨T, rfl, _⟩ := ru.ocol
    rw [e4, List.getElem?_map] at hu
    cases hw : W.ns[j]? with
    | none => rw [hw] at hu; cases hu
    | some s => rw [hw] at hu; cases hu
  have e1 : Ex W (L :: M) H (upd H p (.tup [.str n', .ref z.a])) := Ex.new hp
  have em : Ex W (L :: M) (upd H p (.tup [.str n', .ref z.a])) (upd (upd H p (.tup [.str n', .ref z.a])) L (.lst (us.set j (.ref p)))) := Ex.mut nb nbl (by simp)
  have ee := e1.trans em
  refine ⟨rep_lst upd_same nb nm (Pd.mono (Pd.set j (Pd.mono pp fun _ _ r => r.ex ee) ?_) fun _ _ r => r.less), ee⟩
  obtain ⟨u, hu, ru⟩ := Pd.get pp hz
  obtain ⟨T, rfl, t1, t2, t3, h3, h4, h5⟩ := (ru.ex ee).ocol
  exact rep_ocol (z := ⟨n', z.ws, z.a⟩) (.inl (by rw [upd_ne npL, upd_same])) (ok.new_b hp) (fun hm => (List.mem_cons.mp hm).elim npL (ok.new_M hp)) h3 h4 h5
/-- a fresh address joins those under change -/
theorem le_fresh {a : Addr} (e : Ex W M H H') (ha : cut W M H a = none) : Le (cut W M H) (cut W (a :: M) H') := ⟨fun x o q => by
  obtain ⟨h1, h2, h3⟩ := cut_some.mp q
  refine cut_some.mpr ⟨h1, fun z => ?_, e.keep x o h1 h2 h3⟩
  rcases List.mem_cons.mp z with z | z
  · rw [z, ha] at q; cases q
  · exact h2 z⟩
theorem cut_free {a : Addr} (h : cut W M H a = none) (hb : a ≠ W.b) (hm : a ∉ M) : H a = none := by
  cases e : H a with
  | none => rfl
  | some o => rw [cut_some.mpr ⟨hb, hm, e⟩] at h; cases h
end
end RG
namespace RG
open PySem PySem.Spec PyProof.Rows L2 StX RZ

/-! ### set(texts), of any number -/
/-- the first of each -/
def met : List Str → List Str → List Str
  | f, [] => f
  | f, x :: t => met (if x ∈ f then f else f ++ [x]) t
def firsts (xs : List Str) : List Str := met [] xs
theorem met_take {xs : List Str} {x : Str} : ∀ {i : Nat} {f : List Str}, xs[i]? = some x → met f (xs.take (i + 1)) = if x ∈ met f (xs.take i) then met f (xs.take i) else met f (xs.take i) ++ [x] := by
  induction xs with
  | nil => intro i f h; simp at h
  | cons a t ih =>
    intro i f h
    cases i with
    | zero => simp at h; subst h; simp [met]
    | succ i =>
      rw [List.take_succ_cons, List.take_succ_cons]
      show met _ (t.take (i + 1)) = if x ∈ met _ (t.take i) then met _ (t.take i) else met _ (t.take i) ++ [x]
      exact ih (by simpa using h)
theorem met_len : ∀ {xs f : List Str}, (met f xs).length ≤ f.length + xs.length
  | [], f => Nat.le_refl _
  | x :: t, f => by
    have := met_len (xs := t) (f := if x ∈ f then f else f ++ [x])
    have h : (if x ∈ f then f else f ++ [x]).length ≤ f.length + 1 := by split <;> simp
    show (met _ t).length ≤ _
    rw [List.length_cons]
    omega
theorem met_nodup : ∀ {xs f : List Str}, f.Nodup → ((met f xs).length = f.length + xs.length ↔ xs.Nodup ∧ ∀ x ∈ xs, x ∉ f)
  | [], f, _ => by simp [met]
  | x :: t, f, hf => by
    by_cases hx : x ∈ f
    · have e : met f (x :: t) = met f t := by show met (if x ∈ f then f else f ++ [x]) t = _; rw [if_pos hx]
      have := met_len (xs := t) (f := f)
      rw [e]
      constructor
      · intro h; rw [List.length_cons] at h; omega
      · intro h; exact absurd hx (h.2 x (by simp))
    · have e : met f (x :: t) = met (f ++ [x]) t := by show met (if x ∈ f then f else f ++ [x]) t = _; rw [if_neg hx]
      have hf' : (f ++ [x]).Nodup := List.nodup_append.mpr ⟨hf, by simp, fun a ha b hb => by simp at hb; subst hb; exact fun e => hx (e ▸ ha)⟩
      rw [e, show f.length + (x :: t).length = (f ++ [x]).length + t.length by simp; omega, met_nodup hf', List.nodup_cons]
      constructor
      · rintro ⟨h1, h2⟩
        refine ⟨⟨fun hm => h2 x hm (by simp), h1⟩, fun y hy => ?_⟩
        rcases List.mem_cons.mp hy with rfl | hy
        · exact hx
        · exact fun hm => h2 y hy (by simp [hm])
      · rintro ⟨⟨h1, h2⟩, h3⟩
        refine ⟨h2, fun y hy hm => ?_⟩
        rcases List.mem_append.mp hm with hm | hm
        · exact h3 y (List.mem_cons_of_mem _ hy) hm
        · rw [List.mem_singleton.mp hm] at hy; exact h1 hy
section
variable {prog : Program} {w : World} {A : Around} {E : Value → Shared → Prop}
theorem set_turns {R : Result → Shared → Prop} {I D : Addr} {fp wr : List Addr} {G : Array GenState → Array GenState → Prop} {P : Nat → Value → Prop} {St : Nat → Shared → Prop} {xs : List Str} (T : WalksS prog w A.in1 I fp wr G xs.length P St) (hD : D ∉ fp)
    (hv : ∀ i v, P i v → ∃ t, v = .str (xs.getD i Str.empty) t) (hb : xs.length + 1 < scanBound) :
    ∀ (k i : Nat) (s : Shared), xs.length - i = k → i ≤ xs.length → St i s → s.heap.SetOf (PySem.strKind prog w) D (fun y => decide (y ∈ firsts (xs.take i))) (firsts (xs.take i)).length →
      (∀ s', Moved (D :: wr) G s s' → s'.heap.SetOf (PySem.strKind prog w) D (fun y => decide (y ∈ firsts xs)) (firsts xs).length → R (.ok (.ret .none)) s') →
      codeAny (model prog w) A (.builtin "set.update.loop" ⟨[.ref D, .ref I], []⟩) R s := by
  have hDw : D ∉ wr := fun z => hD (T.sub _ z)
  have up : ∀ b ∈ wr, b ∈ D :: wr := fun b z => List.mem_cons_of_mem _ z
  have carry : ∀ {h h' : Heap} {S : Str → Bool} {n : Nat}, h.SetOf (PySem.strKind prog w) D S n → (∀ o, h.get? D = some o → h'.get? D = some o) → h'.SetOf (PySem.strKind prog w) D S n := fun z m => by
    obtain ⟨o, a, b, c, ho, r⟩ := z
    exact ⟨o, a, b, c, m o ho, r⟩
  intro k
  induction k with
  | zero =>
    intro i s hk hi hst hS hR
    have e : i = xs.length := by omega
    subst e
    rw [List.take_length] at hS
    refine codeAny_builtin PyProof.Rows.F.entry_set_update_loop ?_
    rw [Around.under_plainId PyProof.Rows.F.plain_set_update_loop _]
    show wpAny _ A.in1 (pyNext (.ref I) >>= fun _ => _) _ _ s
    exact wpAny_bind (T.done s _ _ hst fun s' mv => wpAny_pure (hR s' (mv.mono up) (carry hS fun o ho => mv.heap D o hDw ho)))
  | succ k ih =>
    intro i s hk hi hst hS hR
    have lt : i < xs.length := by omega
    refine codeAny_builtin PyProof.Rows.F.entry_set_update_loop ?_
    rw [Around.under_plainId PyProof.Rows.F.plain_set_update_loop _]
    show wpAny _ A.in1 (pyNext (.ref I) >>= fun _ => _) _ _ s
    refine wpAny_bind (T.item i s _ _ lt hst fun v s' pv st' mv => ?_)
    obtain ⟨t, rfl⟩ := hv i v pv
    have hS' := carry hS fun o ho => mv.heap D o hDw ho
    have hx : xs[i]? = some (xs.getD i Str.empty) := by rw [List.getD_eq_getElem?_getD, List.getElem?_eq_getElem lt]; rfl
    generalize xs.getD i Str.empty = x at hx ⊢
    show wpAny _ A.in1 (holding [Value.str x t] (setAdd D (.str x t)) >>= fun _ => _) _ _ s'
    refine wpAny_bind (wpAny_holding ?_)
    unfold setAdd
    refine wpAny_holding (wpAny_bind ((PySem.strKind prog w).pyHash (k := x) (strKind_is _ _ _ _) ?_))
    have room : (firsts (xs.take i)).length + 1 < scanBound := by
      have := met_len (xs := xs.take i) (f := [])
      have l2 : (xs.take i).length ≤ xs.length := by rw [List.length_take]; omega
      unfold firsts
      simp only [List.length_nil] at this
      omega
    refine wpAny_setAddHashed_of (knd := PySem.strKind prog w) (s := { s' with toks := s'.toks + 1 }) (strKind_is _ _ _ _) rfl hS' room fun h' sb hS2 => ?_
    have hSi : h'.SetOf (PySem.strKind prog w) D (fun y => decide (y ∈ firsts (xs.take (i + 1)))) (firsts (xs.take (i + 1))).length := by
      unfold firsts at hS2 ⊢
      rw [met_take hx]
      by_cases hm : x ∈ met [] (xs.take i)
      · rw [if_pos hm]
        refine PyProof.Rows.SetOf_congr hS2 (fun y => ?_) (by rw [if_pos (decide_eq_true hm)])
        by_cases hy : y = x
        · subst hy; simp [hm]
        · simp [hy]
      · rw [if_neg hm]
        refine PyProof.Rows.SetOf_congr hS2 (fun y => ?_) (by rw [if_neg (by simpa using hm)]; simp)
        by_cases hy : y = x
        · subst hy; simp
        · simp [hy]
    refine wpAny_pure ⟨plainId_quiet PyProof.Rows.F.plain_set_update_loop _, ih (i + 1) _ (by omega) lt (T.frame _ s' _ _ st' (Nat.le_succ _) fun b hb o e => ?_) hSi fun s2 mv2 hS3 => ?_⟩
    · rw [sb.2 b (fun z : b = D => hD (z ▸ hb))]; exact e
    · refine hR s2 (Moved.trans T.gtrans ((mv.mono up).then_heap (Nat.le_succ _) fun b o hb e => ?_) mv2) hS3
      rw [sb.2 b (fun z : b = D => hb (z ▸ List.mem_cons_self))]; exact e
set_option maxHeartbeats 3200000 in
theorem set_of_texts {s : Shared} {l : Addr} {its : Array Value} {xs : List Str} {Q : Value → Shared → Prop} (hh : A.handled = none) (hl : s.heap.IsList l its) (hi : PyProof.Rows.StrsAre its.toList xs) (hb : xs.length + 1 < scanBound)
    (h : ∀ (h' : Heap) (tk : Nat), h'.SetOf (PySem.strKind prog w) s.heap.objs.size (fun y => decide (y ∈ firsts xs)) (firsts xs).length → (∀ b o, b < s.heap.objs.size → s.heap.get? b = some o → h'.get? b = some o) → Q (.ref s.heap.objs.size) { s with heap := h', toks := tk }) :
    wpAny (model prog w) A (call (.type "set") [.ref l]) Q E s := by
  have m0 := PySem.F.called_set.mro
  obtain ⟨cc, tl, hmro⟩ := m0
  have hmade := PySem.F.called_set.made
  have hsub := PySem.F.called_set.sub
  have q1 := PySem.F.called_set.notType
  have q2 := PySem.F.called_set.canCreate
  have q3 := PySem.F.typeCall_set_1 (.ref l)
  refine wpAny_call (codeAny_of_tree (?_ : wpAny _ _ (callAny (.type "set") _) _ _ _))
  refine wpAny_pure ⟨Code.quiet_builtin _ (by decide +kernel), codeAny_builtin PySem.F.entry_type_call ?_⟩
  rw [Around.under_plain (weight_type_call_type "set" [.ref l] []) rfl]
  repeat (any_goals (first | assumption | wp_step))
  let ob : Bool → Obj := fun led => { cls := .type "set", dict := none, data := .set #[] 0 (.fresh 0 0 led) }
  refine codeAny_mono (code_set_new_1 (.ref l) (E := E) (Q₁ := fun r s₁ => ∃ led : Bool, r = .ref s.heap.objs.size ∧ s₁ = { s with heap := s.heap.push (ob led) }) fun led => ⟨led, rfl, rfl⟩) fun r s₁ hr => ?_
  match r, hr with
  | .error e, hr => exact hr
  | .ok (.ret r0), hr =>
    obtain ⟨led, rfl, rfl⟩ := hr
    have hS : (s.heap.push (ob led)).get? s.heap.objs.size = some (ob led) := Heap.get?_push_size _ rfl
    have hT : Shared.TypeIs { s with heap := s.heap.push (ob led) } (.ref s.heap.objs.size) "set" := ⟨_, hS, rfl⟩
    have q4 := PySem.F.called_set.init.lookup
    have q5 := PySem.F.called_set.init.bind (.ref s.heap.objs.size)
    repeat (any_goals (first | assumption | wp_step))
    refine codeAny_mono (codeAny_call_builtin (R := wants (fun r s₂ => r = .none ∧ ∃ h' tk, s₂ = { s with heap := h', toks := tk } ∧ h'.SetOf (PySem.strKind prog w) s.heap.objs.size (fun y => decide (y ∈ firsts xs)) (firsts xs).length ∧
        ∀ b o, b < s.heap.objs.size → s.heap.get? b = some o → h'.get? b = some o) E) PySem.F.called_set.init.plain PySem.F.entry_set_init (check_set_init_1 hT ?_)) fun r₂ s₂ hr₂ => ?_
    · obtain ⟨⟨oc, od, odt, osl⟩, hol, hcl, nl, hdl⟩ := hl
      simp only at hcl hdl
      subst hcl; subst hdl
      have hol' := Heap.get?_push_of_some (ob led) hol
      have q6 := PySem.F.sub_list_set
      have q7 := PySem.F.sub_list_frozenset
      have q8 : (Value.type "list" == Value.type "dict") = false := by decide
      have hl1 : (s.heap.push (ob led)).IsList l its := ⟨_, hol', rfl, nl, rfl⟩
      unfold Builtin.«set.__init__» noKeywords Builtin.Frozenset.updateFrom
      generalize hPI : pyIter = PI
      wp_walk
      subst hPI
      refine wpAny_pyIter_list hl1 (wpAny_bind (wpAny_runValue ?_))
      have lS : l < s.heap.objs.size := Heap.lt_size hol
      have hh3 : A.in1.in1.in1.handled = none := by simp [hh]
      have e1 : (s.heap.push (ob led)).objs.size = s.heap.objs.size + 1 := Heap.size_push ..
      have nI : l ≠ (s.heap.push (ob led)).objs.size := fun z => Nat.lt_irrefl _ (Nat.lt_trans (Nat.lt_of_lt_of_eq (Nat.lt_succ_self _) (e1.symm.trans z.symm)) lS)
      have nD : s.heap.objs.size ∉ [(s.heap.push (ob led)).objs.size, l] := by
        rw [e1]
        intro hm
        rcases List.mem_cons.mp hm with z | z
        · exact absurd z (Nat.ne_of_lt (Nat.lt_succ_self _))
        · exact absurd (List.mem_singleton.mp z).symm (Nat.ne_of_lt lS)
      have n1 : its.size = xs.length := by rw [← StrsAre.len_eq hi, Array.length_toList]
      have W1 := (Walks.list (prog := prog) (w := w) hh3 (s.heap.push (ob led)).objs.size l nI its).toS
      rw [n1] at W1
      refine set_turns W1 nD (fun i v hv => SS.strs_at hi i v (by rw [Array.getElem?_toList]; exact hv)) hb (xs.length - 0) 0 _ (by omega) (Nat.zero_le _) ⟨⟨_, Heap.get?_push_size _ rfl, rfl, rfl⟩, hl1.push _⟩ ?hS0 ?hR
      case hS0 =>
        refine PyProof.Rows.SetOf_congr ((PyProof.Rows.setObjOf_fresh (knd := PySem.strKind prog w) led).setOf (Heap.get?_push_of_some _ hS) (by unfold scanBound; omega)) (fun y => ?_) rfl
        show false = decide (y ∈ ([] : List Str))
        simp
      case hR =>
        intro s' mv hS'
        obtain ⟨h', g', d', tk', os'⟩ := s'
        obtain rfl : g' = s.gens := mv.gens
        obtain rfl : d' = s.drawn := mv.drawn
        obtain rfl : os' = s.os := mv.os
        have fin : ∀ b o, b < s.heap.objs.size → s.heap.get? b = some o → h'.get? b = some o := fun b o hb e => by
          refine mv.heap b o (fun hm => ?_) (Heap.get?_push_of_some _ (Heap.get?_push_of_some _ e))
          rw [e1] at hm
          rcases List.mem_cons.mp hm with z | z
          · exact Nat.lt_irrefl _ (z ▸ hb)
          · exact Nat.lt_irrefl _ (Nat.lt_trans (Nat.lt_of_lt_of_eq (Nat.lt_succ_self _) (List.mem_singleton.mp z).symm) hb)
        show wpAny _ _ _ _ _ _
        refine wpAny_pure ?_
        show wpAny _ _ (ret Value.none) _ _ _
        exact wpAny_pure ⟨rfl, h', tk', rfl, hS', fin⟩
    · match r₂, hr₂ with
      | .error e, hr₂ => exact hr₂
      | .ok (.ret r1), hr₂ =>
        obtain ⟨rfl, h', tk, rfl, hS', hk'⟩ := hr₂
        repeat (any_goals (first | assumption | wp_step))
        exact h _ _ hS' hk'
end
/-- len(set(xs)) of texts -/
def tLenSetS (K : PySem.W.Frag) (ta : TE) : TE := fun σ H Q => ta σ H fun x H1 => ∃ l, ∃ xs : List Str, x = .ref l ∧ SqL K H1 l (xs.map V.str) ∧ xs.length < 1000 ∧ Q (.int (firsts xs).length) H1
theorem pe_lenSetS {X : Cx} {a : Expr} {ta : TE} {p p2 q pos : Pos} (hc : X.calm = true) (hg : Gl X "len") (hm : X.mg "len" = none) (hg2 : Gl X "set") (hm2 : X.mg "set" = none) (ha : PE X a ta) (na : starEach [a] X.env = (false, eval a X.env) :: starEach [] X.env := by rfl) :
    PE X (.Call (.Name "len" p) [.Call (.Name "set" p2) [a] [] q] [] pos) (tLenSetS X.K ta) := by
  refine ⟨fun pins s σ H Q I h => ?_⟩
  refine Call_ (ld_blt I hg hm boot_len (PyProof.Rows.callWith_builtin1 (PyProof.Rows.args_cons ?_ rfl) rfl rfl))
  refine Call_ (ld_blt I hg2 hm2 boot_set ?_)
  refine PyProof.Rows.callWith_type1 (PyProof.Rows.args_cons (thn (ha.run pins s σ H _ I h) fun v s1 ⟨x, H1, I1, r1, q1⟩ => PyProof.Rows.args_nil ?_) na) na rfl
  obtain ⟨l, xs, rfl, hq, h1, q1⟩ := q1
  cases r1
  obtain ⟨its, r, pl, hz⟩ := I1.list hq
  have hfl : (firsts xs).length ≤ xs.length := by have := met_len (xs := xs) (f := []); unfold firsts; simpa using this
  refine set_of_texts (I1.ok.hd hc) pl.isList (by simpa using strsAre_of r) (by unfold scanBound; omega) fun h' tk hS hk => ?_
  refine PyProof.Rows.args_nil ?_
  obtain ⟨o, es, ep, t, ho, hex, hd, _, _, _, hf, hn⟩ := hS
  have I2 : Inv X pins σ H1 { s1 with heap := h', toks := tk } := I1.kept fun b o e => hk b o (Heap.lt_size e) e
  exact call_len_set ho hex hd hf (by rw [hn]; omega) ⟨.int (firsts xs).length, H1, I2.tok _, ⟨_, by rw [hn]⟩, q1⟩
section
variable {W : Wd} {M : List Addr} {σ : L2.St} {H : Hp} {ta : TE}
theorem ev_lenSetS {xs : List Str} (ha : Ev W M ta σ H xs) (hl : xs.length < 1000) : Ev W M (tLenSetS W.K ta) σ H ((firsts xs).length : Int) := fun H1 e ok Q q =>
  ha H1 e ok _ fun v H2 e2 r => by
    obtain ⟨a, vs, ev, hh, _, _, pp⟩ := r.lst
    exact ⟨a, xs, ev, SqL.of (by rw [hh, paired_toV pp]; rfl), hl, q _ H2 e2 rep_int⟩
theorem firsts_nd {xs : List Str} : (firsts xs).length = xs.length ↔ xs.Nodup := by
  have := met_nodup (xs := xs) (f := []) List.nodup_nil
  simpa [firsts] using this
end
end RG
namespace RG
open PySem PySem.Spec PyProof.Rows L2 StX RZ
section
variable {X : Cx} {k : Nat} {C : Addr} {m : Str} {ps : List Str} {sp : Sp} {a b : Expr} {ta tb : TE} {pos : Pos}
/-! ### a + b, a[b] of own classes -/
/-- x op y by the class's own word, y of the same class -/
def rBinOwn (C : Addr) (sp : Sp) : R2 := fun x y H Q => ∃ a dx fs b dy gs, x = .ref a ∧ y = .ref b ∧ H a = some (.ins C dx fs) ∧ H b = some (.ins C dy gs) ∧ sp [x, y] H (fun z H' => (∃ p, z = .ref p) ∧ Q z H') E0
theorem op_binOwn {op : Operator} (c : OwnC X.prog X.w X.K X.mg X.base k C (PySem.dunder op.info.2) ps sp) (hc : PySem.W.selfFirst X.K C = true) (hr : Room k X.A) : OpR X (binaryOp op) (rBinOwn C sp) := by
  intro pins s σ H x y v u Q I rx ry h
  obtain ⟨a, dx, fs, b, dy, gs, rfl, rfl, ha, hb, q⟩ := h
  cases (show v = Value.ref a from rx)
  cases (show u = Value.ref b from ry)
  obtain ⟨mA, O, _⟩ := ins_get I.hok ha
  obtain ⟨od, J, _⟩ := O.look
  obtain ⟨mB, OB, _⟩ := ins_get I.hok hb
  obtain ⟨odb, JB, _⟩ := OB.look
  obtain ⟨m, hF⟩ := I.fr
  refine PySem.W.binop_K hF I.ok.mod.kin J JB.type hc c.fi c.fn (wpAny_mono (wpAny_call (run_fnR (us := [.ref a, .ref b]) (vs := [.ref a, .ref b]) (fnR_of c.ok c.b) hr pass0 I (.cons rfl (.cons rfl .nil)) q)) (fun r s' z => ?_) fun _ _ x => x)
  obtain ⟨z', H', I', rz, ⟨p, ez⟩, qz⟩ := z
  subst ez
  cases (show r = Value.ref p from rz)
  exact ⟨.ref p, H', I', rfl, qz⟩
/-- a[b] by the class's own word -/
def rIxOwn (C : Addr) (sp : Sp) : R2 := fun x y H Q => ∃ a dx fs, x = .ref a ∧ H a = some (.ins C dx fs) ∧ sp [x, y] H Q E0
theorem pe_ixOwn (c : OwnC X.prog X.w X.K X.mg X.base k C "__getitem__" ps sp) (hr : Room (k + 1) X.A) (hk : PySem.W.fnIn X.K c.f = true) (ha : PE X a ta) (hb : PE X b tb)
    (hs : ∀ x i, subscripted b true (.ref x) i = runValue (.builtin "lifetime.subscript" ⟨[.ref x, i], []⟩)) : PE X (.Subscript a b pos) (tOp (rIxOwn C sp) ta tb) := by
  refine ⟨fun pins s σ H Q I h => ?_⟩
  refine Subscript_ (binT ha hb I h fun v u s2 x y H2 I2 rx ry q => ?_)
  obtain ⟨p, dx, fs, rfl, hp, q⟩ := q
  cases (show v = Value.ref p from rx)
  obtain ⟨mA, O, _⟩ := ins_get I2.hok hp
  obtain ⟨od, J, _⟩ := O.look
  obtain ⟨m, hF⟩ := I2.fr
  refine PySem.W.sub_K hF I2.ok.mod.kin J c.fi hk c.fn ?_ (hs _ _)
  exact wpAny_call (SlX.run_at (us := [.ref p, u]) (ws := [.ref p, y]) (fnR_of c.ok c.b) hr.in1 I2.env0.in1 pass0 I2 (.cons rfl (.cons ry .nil)) q)
end
section
variable {α β γ : Type} [Py α] [Py β] [Py γ] {W : Wd} {M : List Addr} {σ : L2.St} {H : Hp} {ta tb : TE}
theorem ev_binOwn {ω : Type} [PyO ω] {o o' : ω} {pre : ω → ω → Prop} {f : ω → ω → ω} (ha : Ev W M ta σ H o) (hb : Ev W M tb σ H o') (hp : pre o o') : Ev W M (tOp (rBinOwn (W.C (PyO.cn ω)) (F2 W.K W.C pre f)) ta tb) σ H (f o o') := fun H1 e ok Q q =>
  ha H1 e ok _ fun v H2 e2 r => hb H2 (e.trans e2) (ok.ex e2) _ fun u H3 e3 r3 => by
    obtain ⟨a, dx, fs, ev, hh, _⟩ := (r.up e3).ins
    obtain ⟨b, dy, gs, eu, hh', _⟩ := r3.ins
    refine ⟨a, dx, fs, b, dy, gs, ev, eu, hh, hh', W, M, v, u, o, o', rfl, rfl, rfl, (ok.ex e2).ex e3, r.up e3, r3, hp, fun r H4 e4 rr => ?_⟩
    obtain ⟨p, _, _, ep, _⟩ := rr.ins
    exact ⟨⟨p, ep⟩, q r H4 ((e2.trans e3).trans e4) rr⟩
theorem ev_ixOwn {ω : Type} [PyO ω] {o : ω} {x : α} {pre : ω → α → Prop} {f : ω → α → β} (ha : Ev W M ta σ H o) (hb : Ev W M tb σ H x) (hp : pre o x) : Ev W M (tOp (rIxOwn (W.C (PyO.cn ω)) (F2 W.K W.C pre f)) ta tb) σ H (f o x) := fun H1 e ok Q q =>
  ha H1 e ok _ fun v H2 e2 r => hb H2 (e.trans e2) (ok.ex e2) _ fun u H3 e3 r3 => by
    obtain ⟨a, dx, fs, ev, hh, _⟩ := (r.up e3).ins
    exact ⟨a, dx, fs, ev, hh, W, M, v, u, o, x, rfl, rfl, rfl, (ok.ex e2).ex e3, r.up e3, r3, hp, fun r H4 e4 rr => q r H4 ((e2.trans e3).trans e4) rr⟩
end
end RG
namespace RG
open PySem PySem.Spec PyProof.Rows L2 StX RZ
/-! ### promises that know how great the heap was -/
def FnRS (P : Program) (w : World) (K : PySem.W.Frag) (mg : Str → Option Value) (base : Heap) (k : Nat) (f : Addr) (sp : Nat → Sp) : Prop :=
  ∀ (A : Around) (outer : List Env) (s : Shared) (H : Hp) (us : List Value) (vs : List V) (Q : VK) (E : XK), Room k A → Env0 P w K mg base A outer s H → Vals vs us → sp s.heap.objs.size vs H Q E → codeAny (model P w) A (.call (.ref f) ⟨us, []⟩) (CR CX0 outer P w H s Q E) s
section
variable {P : Program} {w : World} {K : PySem.W.Frag} {mg : Str → Option Value} {base : Heap}
theorem fun_sized {x qual : Str} {st : Stmt} {f : Addr} {fd : FuncData} {N ps : List Str} {k : Nat} {sp : Nat → Sp} (F : Fun K x qual st f fd) (S : FnScope N ps (defScope st)) (bi : Binds K fd ps []) (len : ∀ n vs H Q E, sp n vs H Q E → vs.length = ps.length)
    (hbody : ∀ (cdv : Value) (A : Around) (outer : List Env) (s : Shared) (H : Hp) (vs : List V) (Q : VK) (E : XK), Room k (A.deeper (envOfC qual (defScope st) s.heap.objs.size f cdv)) → sp s.heap.objs.size vs H Q E →
      ∃ t, PSs (cxOf CX0 P w K mg base N qual (defScope st) f cdv A outer s H E).nox (defBody st) t ∧ t { nx := fun _ H' => Q .non H', rt := Q } (start N vs) H) : FnRS P w K mg base (k + 1) f sp := by
  obtain ⟨oc, od, kV, doc, pm, an, cdv, ct, osl, rfl, lk, hcd⟩ := F.ex
  intro A outer s H us vs Q E hr e0 r hsp
  have hl := len _ _ _ _ _ hsp
  have KX : K.In s.heap := e0.mod.kin.keeps fun b o z => (e0.bs b o z).1
  have NL : s.heap.NoLimit := e0.mod.nolimit.keeps fun b o z => (e0.bs b o z).1
  have ub : us.length = ps.length := by rw [← r.length]; exact hl
  have par : ∀ y ∈ ps.zip us, (defScope st).names.lookup y.1 = some .local ∨ ((defScope st).names.lookup y.1 = some .cell ∧ ((cellsFrom (s.heap.objs.size + 1) (defScope st).names []).lookup y.1).isSome = true) := by
    rintro ⟨n, v⟩ hy
    exact (S.par n (List.of_mem_zip hy).1).imp id fun q => ⟨q, PySem.W.cellsFrom_some _ _ _ (.inl q)⟩
  refine codeAny_call_function hr.depth (KX _ _ lk) rfl S.co S.gen rfl (PySem.W.codeRec_of KX hcd) ((by simpa using bi s us KX (by simpa using ub) : BindsTo s _ ⟨us, []⟩ (ps.zip us)) _ _ _ _ ?_)
  refine wpAny_newFunctionEnv_cells S.kind par fun env he s1 z => ?_
  subst he
  refine ⟨NL.keeps z.toInCall.keep, codeAny_func ?_⟩
  obtain ⟨t, ht, hq⟩ := hbody cdv A outer s H vs Q E (hr.deeper _) hsp
  refine wpAny_mono (ht.nox.run [] s1 (start N vs) H _ (inv_start S hr.hd e0 hl r z) hq) (fun fl s' hs => ?_) fun e s' hs => hs
  match fl, hs with
  | .ret u, ⟨v, σ', H', J, rv, q⟩ => exact ⟨v, H', J.os, J.bare, J.base, J.hok, rv, q⟩
  | .next, ⟨σ', H', J, q⟩ => exact ⟨.non, H', J.os, J.bare, J.base, J.hok, rfl, q⟩
  | .brk, ⟨_, _, _, q⟩ => exact q.elim
  | .cont, ⟨_, _, _, q⟩ => exact q.elim
end
end RG
namespace RG
open PySem PySem.Spec PyProof.Rows L2 StX RZ
/-! ### iter(a tuple), and loops over instances whose __iter__ gives such a one -/
def TuIt (l it : Addr) : HO := .ext fun h => h.IsTupleIter it l 0
theorem tuIt_ok {P : Program} {w : World} {H : Hp} {h : Heap} {l it : Addr} (e : h.IsTupleIter it l 0) : ObjOk P w H h it (TuIt l it) :=
  ⟨e, (let ⟨o, ho, _⟩ := e; ⟨o, ho⟩), fun h1 h2 q k => let ⟨o, ho, r⟩ := q; ⟨o, k _ ho, r⟩⟩
theorem iter_tuple {prog : Program} {w : World} {A : Around} {E : Value → Shared → Prop} {s : Shared} {l : Addr} {its : Array Value} {Q : Value → Shared → Prop} (hl : s.heap.IsTuple l its)
    (h : Q (.ref s.heap.objs.size) { s with heap := s.heap.push { cls := .type "tuple_iterator", data := .fields #[.ref l, .int 0 0] } }) : wpAny (model prog w) A (call (.builtin "iter") [.ref l]) Q E s := by
  refine Calls.call_function_entry (by decide +kernel) (by decide +kernel) PySem.W.kdk_entry_iter (PySem.W.kdk_args_iter _) ?_
  unfold Builtin.«iter»
  refine wpAny_bind (m := someArgs "iter" 1 2 _) (wpAny_of_eq (a := [Value.ref l]) (by first | rfl | kernel_rfl!) ?_)
  show wpAny _ _ (pyIter (.ref l) >>= fun _ => _) _ _ _
  exact wpAny_bind (wpAny_pyIter_tuple hl (wpAny_pure ⟨_, rfl, h⟩))
def rIterT (K : PySem.W.Frag) (n : Nat) : List V → Hp → VK → Prop := fun xs H Q => ∃ (l : Addr) (zs : List V), xs = [.ref l] ∧ SqT K H l zs ∧ ∀ it, H it = none → n ≤ it → Q (.ref it) (upd H it (TuIt l it))
theorem cIterT {X : Cx} : CallR X (.builtin "iter") (rIterT X.K X.s_0.heap.objs.size) := by
  intro pins s σ H xs us Q I r h
  obtain ⟨l, zs, rfl, hq, q⟩ := h
  obtain ⟨u, rfl, ru⟩ := r.one
  cases ru
  obtain ⟨its, rv, pl, hz⟩ := I.tuple hq
  refine iter_tuple (show s.heap.IsTuple l its.toArray from pl) ?_
  exact ⟨.ref s.heap.objs.size, _, I.laid (t' := s.toks) (fun b u e => Heap.get?_push_of_some _ e) (Nat.le_refl _) (tuIt_ok ⟨_, Heap.get?_push_size _ rfl, rfl, rfl⟩), rfl, q _ (I.hok.fresh (Nat.le_refl _)) I.sz⟩
/-- an own __iter__: it gives a new iterator over a tuple -/
def IterP {ω α : Type} [Py ω] [Py α] (K : PySem.W.Frag) (C : Str → Addr) (g : ω → Tup α) (n : Nat) : Sp := fun vs H Q _ => ∃ (W : Wd) (M : List Addr) (v : V) (x : ω), W.K = K ∧ W.C = C ∧ vs = [v] ∧ Ok W M H ∧ Rep W M H v x ∧
  ∀ l it H', Ex W [] H H' → Rep W M H' (.ref l) (g x) → H' it = none → n ≤ it → Q (.ref it) (upd H' it (TuIt l it))
structure ItrC (P : Program) (w : World) (K : PySem.W.Frag) (mg : Str → Option Value) (base : Heap) (k : Nat) (C : Addr) (sp : Nat → Sp) where
  f : Addr
  ok : FnRS P w K mg base k f sp
  fi : PySem.W.findIn K (.ref C) "__iter__" = some (some (.ref f))
  fn : PySem.W.isFn K (.ref f) = true
def iOwnIt (K : PySem.W.Frag) (C : Addr) (sp : Nat → Sp) (te : TE) : TI := fun σ H R => te σ H fun x H1 => ∃ a dx fs, x = .ref a ∧ H1 a = some (.ins C dx fs) ∧ ∀ n, sp n [.ref a] H1 (fun z H2 => ∃ it l, z = .ref it ∧ n ≤ it ∧ H2 it = some (TuIt l it) ∧ (∃ xs, SqT K (ItX.dropH H2 it) l xs) ∧ R (Itt K l) (ItX.dropH H2 it)) E0
theorem pi_ownIt {X : Cx} {k : Nat} {C : Addr} {sp : Nat → Sp} {tg e : Expr} {te : TE} (c : ItrC X.prog X.w X.K X.mg X.base k C sp) (hr : Room k X.A) (he : PE X e te) : PI X tg e (iOwnIt X.K C sp te) := by
  refine ⟨fun pins s σ H R I h => ?_⟩
  refine thn (he.run pins s σ H _ I h) fun v s1 ⟨x, H1, I1, r1, q1⟩ => ?_
  obtain ⟨a, dx, fs, rfl, ha, q⟩ := q1
  cases (show v = Value.ref a from r1)
  obtain ⟨mA, O, _⟩ := ins_get I1.hok ha
  obtain ⟨od, J, _⟩ := O.look
  obtain ⟨m, hF⟩ := I1.fr
  refine PySem.W.owit_iter hF I1.ok.mod.kin J c.fi c.fn (wpAny_call (codeAny_mono (c.ok X.A X.stack s1 H1 [.ref a] [.ref a] _ E0 hr I1.env0 (.cons rfl .nil) (q _)) fun r s' hq => ?_))
  cases r with
  | error e => exact hq.elim
  | ok fl =>
    cases fl with
    | next => exact False.elim hq
    | brk => exact False.elim hq
    | cont => exact False.elim hq
    | ret u =>
      obtain ⟨z, H2, I2, rz, it, l, ez, hn, hit, ⟨xs, hs⟩, hR⟩ := I1.after hq
      subst ez
      cases (show u = Value.ref it from rz)
      have hti : s'.heap.IsTupleIter it l 0 := (I2.hok it _ hit).1
      have I3 := ItX.inv_drop I2 hit
      show PySem.W.OwitIt _ _ _ _ _ _
      unfold PySem.W.OwitIt
      refine wpAny_specialOf (name := Str.ofString "__next__") hti.typeIs F.slot_tuple_iterator_next.lookup ?_
      exact ⟨it, [it], _, _, ItX.dropH H2 it, rfl, I3, turn_tuple l it, hti, fun b hb => by
        have e : b = it := by simpa using hb
        rw [e]
        exact ItX.inv_fp I2 hit (Nat.le_trans I1.sz hn), hR⟩
theorem ei_ownIt {ω α : Type} [PyO ω] [Py α] {W : Wd} {M : List Addr} {σ : L2.St} {H : Hp} {te : TE} {o : ω} {g : ω → Tup α} (h : Ev W M te σ H o) : Ei W M (iOwnIt W.K (W.C (PyO.cn ω)) (IterP W.K W.C g) te) σ H (g o).l := fun H1 e ok R q =>
  h H1 e ok _ fun v H2 e2 r => by
    obtain ⟨a, dx, fs, rfl, hh, _⟩ := r.ins
    refine ⟨a, dx, fs, rfl, hh, fun n => ⟨W, M, .ref a, o, rfl, rfl, rfl, ok.ex e2, r, fun l it H' e' rl hit hn => ?_⟩⟩
    refine ⟨it, l, rfl, hn, upd_same, ?_⟩
    rw [ItX.dropH_upd hit]
    have z := ei_tup (M := M) (xs := g o) (tl := fun _ H Q => Q (.ref l) H) (σ := σ) (H := H') (fun H3 e3 ok3 Q3 q3 => q3 _ H3 Ex.refl (rl.up e3)) H' Ex.refl ((ok.ex e2).ex e') R fun J S H3 e3 => q J S H3 ((e2.trans e').trans e3)
    obtain ⟨b, eb, p, z⟩ := z
    cases eb
    exact ⟨p, z⟩
end RG
namespace RG
open PySem PySem.Spec PyProof.Rows L2 StX RZ
/-! ### tuples of texts that stand as such: keys -/
structure TupK where
  l : List Str
  deriving DecidableEq
instance : Inhabited TupK := ⟨⟨[]⟩⟩
instance : Py TupK := ⟨fun _ H v x => ∃ a, v = .ref a ∧ H a = some (.tup (x.l.map V.str)), fun q ⟨a, e, h⟩ => ⟨a, e, q.ex _ _ h⟩⟩
theorem map_str_dat {K : PySem.W.Frag} {H : Hp} : ∀ l : List Str, DpAll K H (l.map V.str) (l.map PyData.str)
  | [] => .nil
  | _ :: t => .cons (.str _) (map_str_dat t)
instance : PyD TupK where
  dat x := .tuple (x.l.map PyData.str)
  dp h := by
    obtain ⟨a, e, h⟩ := h
    rw [e]; exact .tup (.inl (.inl h)) (map_str_dat _)
  eqv x y := by
    have : PyData.eqv (.tuple (x.l.map PyData.str)) (.tuple (y.l.map PyData.str)) = true ↔ Tup.mk x.l = Tup.mk y.l := PyD.eqv (Tup.mk x.l) (Tup.mk y.l)
    rw [this]
    cases x; cases y; simp
  dep := 1
  depth x := PyD.depth (Tup.mk x.l)
section
variable {W : Wd} {M : List Addr} {σ : L2.St} {H : Hp} {ta tb te : TE} {tr : TA} {v : V} {x y : TupK}
theorem Rep.tk (h : Rep W M H v x) : Rep W M H v (Tup.mk x.l) := by
  obtain ⟨a, e, h⟩ := h
  exact ⟨a, _, e, .inl h, toV_paired (α := Str) (W := W) (M := M) (H := H)⟩
theorem Ev.tk (h : Ev W M te σ H x) : Ev W M te σ H (Tup.mk x.l) := h.cv fun _ _ r => r.tk
theorem Rep.tupK (h : Rep W M H v x) : ∃ a, v = .ref a ∧ H a = some (.tup (x.l.map V.str)) ∧ a ≠ W.b ∧ a ∉ M := by
  obtain ⟨a, e, h⟩ := h
  obtain ⟨h1, h2, h3⟩ := cut_some.mp h
  exact ⟨a, e, h3, h1, h2⟩
theorem rep_tupK {a : Addr} (h : H a = some (.tup (x.l.map V.str))) (hb : a ≠ W.b) (hm : a ∉ M) : Rep W M H (.ref a) x := ⟨a, rfl, cut_some.mpr ⟨hb, hm, h⟩⟩
theorem ev_tupK {xs : List Str} (h : Ea W M tr σ H xs) (hl : xs.length ≤ 1000000) : Ev W M (tTup tr) σ H (TupK.mk xs) := fun H1 e ok Q q =>
  h H1 e ok _ fun vs H2 e2 pp => ⟨by rw [Pd.length pp]; exact sz hl, fun l hp => q _ _ (e2.trans (Ex.new hp)) (rep_tupK (by rw [upd_same, paired_toV pp]; rfl) ((ok.ex e2).new_b hp) ((ok.ex e2).new_M hp))⟩
theorem ev_catK (ha : Ev W M ta σ H x) (hb : Ev W M tb σ H y) (hl : x.l.length + y.l.length ≤ 1000000) : Ev W M (tOp (rCatA W.K) ta tb) σ H (TupK.mk (x.l ++ y.l)) := fun H1 e ok Q q =>
  ha H1 e ok _ fun v H2 e2 r => hb H2 (e.trans e2) (ok.ex e2) _ fun u H3 e3 r3 => by
    obtain ⟨a, rfl, hh, hb, hm⟩ := (r.up e3).tupK
    obtain ⟨a', rfl, hh', hb', hm'⟩ := r3.tupK
    have ok3 := (ok.ex e2).ex e3
    refine ⟨a, a', _, _, rfl, rfl, .inl (.inl hh), .inl (.inl hh'), by rw [List.length_map, List.length_map]; exact sz hl, fun z => ?_, fun _ z => ?_, fun _ _ l hp => ?_⟩
    · have : x.l = [] := List.map_eq_nil_iff.mp z
      exact q _ _ (e2.trans e3) (rep_tupK (by rw [this]; exact hh') hb' hm')
    · have : y.l = [] := List.map_eq_nil_iff.mp z
      exact q _ _ (e2.trans e3) (rep_tupK (by rw [this, List.append_nil]; exact hh) hb hm)
    · exact q _ _ ((e2.trans e3).trans (Ex.new hp)) (rep_tupK (by rw [upd_same, List.map_append]) (ok3.new_b hp) (ok3.new_M hp))
theorem ea_starK {xs : TupK} {ys : List Str} (ha : Ev W M ta σ H xs) (hr : Ea W M tr σ H ys) : Ea W M (tStar W.K ta tr) σ H (xs.l ++ ys) := ea_starT ha.tk hr
end
/-! ### dicts whose keys are tuples of texts -/
structure Dk (ν : Type) where
  kvs : List (List Str × ν)
instance {ν : Type} [Py ν] : Py (Dk ν) := ⟨fun W H v x => ∃ a ws, v = .ref a ∧ H a = some (.dT ws) ∧ Paired (fun (w : List L2.Key × V) (p : List Str × ν) => w.1 = p.1.map Sum.inr ∧ Py.rep W H w.2 p.2) ws x.kvs,
  fun q ⟨a, ws, e, h, p⟩ => ⟨a, ws, e, q.ex _ _ h, paired_mono (fun _ _ r => ⟨r.1, Py.mono q r.2⟩) p⟩⟩
end RG
namespace RG
open PySem PySem.Spec PyProof.Rows L2 StX RZ
/-! ### dicts from tuples of texts to whole numbers -/
structure Di where
  kvs : List (List Str × Int)
  deriving DecidableEq
def encD (l : List (List Str × Int)) : List (List L2.Key × V) := l.map fun p => (p.1.map Sum.inr, .int p.2)
instance : Py Di := ⟨fun _ H v x => ∃ a, v = .ref a ∧ H a = some (.dT (encD x.kvs)), fun q ⟨a, e, h⟩ => ⟨a, e, q.ex _ _ h⟩⟩
theorem map_inr_inj : ∀ {a b : List Str}, (a.map Sum.inr : List L2.Key) = b.map Sum.inr → a = b
  | [], [], _ => rfl
  | [], _ :: _, h => by simp at h
  | _ :: _, [], h => by simp at h
  | x :: t, y :: s, h => by
    rw [List.map_cons, List.map_cons] at h
    injection h with h1 h2
    injection h1 with h1
    rw [h1, map_inr_inj h2]
theorem valV_enc (k : List Str) : ∀ l : List (List Str × Int), valV (encD l) (k.map Sum.inr) = (l.lookup k).map V.int
  | [] => rfl
  | (a, n) :: t => by
    have ih := valV_enc k t
    by_cases h : k = a
    · subst h
      simp [encD, valV]
    · have hb : (k == a) = false := beq_eq_false_iff_ne.mpr h
      rw [List.lookup_cons, hb, ← ih]
      have hn : ¬ (a.map Sum.inr : List L2.Key) = k.map Sum.inr := fun e => h (map_inr_inj e).symm
      simp [encD, valV, hn]
theorem Rep.di {W : Wd} {M : List Addr} {H : Hp} {v : V} {x : Di} (h : Rep W M H v x) : ∃ a, v = .ref a ∧ H a = some (.dT (encD x.kvs)) ∧ a ≠ W.b ∧ a ∉ M := by
  obtain ⟨a, e, h⟩ := h
  obtain ⟨h1, h2, h3⟩ := cut_some.mp h
  exact ⟨a, e, h3, h1, h2⟩
theorem map_kV (l : List Str) : l.map V.str = (l.map Sum.inr : List L2.Key).map kV := by rw [List.map_map]; rfl
section
variable {W : Wd} {M : List Addr} {σ : L2.St} {H : Hp} {ta tb tc : TE} {x : Di} {k : TupK} {n : Int}
/-- d.get(k, n) -/
theorem ev_dgetI (ha : Ev W M ta σ H x) (hb : Ev W M tb σ H k) (hc : Ev W M tc σ H n) : Ev W M (tDGet2 ta tb tc) σ H ((x.kvs.lookup k.l).getD n) := fun H1 e ok Q q =>
  ha H1 e ok _ fun v H2 e2 r => by
    obtain ⟨a, rfl, hh, _⟩ := r.di
    refine ⟨a, rfl, .inr ⟨_, .inl hh⟩, hb H2 (e.trans e2) (ok.ex e2) _ fun u H3 e3 r3 => hc H3 ((e.trans e2).trans e3) ((ok.ex e2).ex e3) _ fun w H4 e4 r4 => ?_⟩
    obtain ⟨a', ea, hh', _⟩ := (r.up (e3.trans e4)).di
    cases ea
    obtain ⟨b, rfl, hb', _⟩ := (r3.up e4).tupK
    refine ⟨_, .inr ⟨_, k.l.map Sum.inr, b, .inl hh', rfl, by rw [hb', map_kV], rfl⟩, ?_⟩
    rw [valV_enc]
    refine q _ H4 ((e2.trans e3).trans e4) ?_
    cases x.kvs.lookup k.l with
    | none => exact r4
    | some m => exact rep_int
/-- k in d -/
theorem et_din {k : TupK} (hb : Ev W M tb σ H k) (ha : Ev W M ta σ H x) : Et W M (tTest (tDIn tb ta)) σ H ((x.kvs.lookup k.l).isSome) := fun H1 e ok Q q =>
  hb H1 e ok _ fun u H2 e2 r2 => ha H2 (e.trans e2) (ok.ex e2) _ fun v H3 e3 r => by
    obtain ⟨a, rfl, hh, _⟩ := r.di
    obtain ⟨b, rfl, hb', _⟩ := (r2.up e3).tupK
    refine ⟨a, _, rfl, .inr ⟨_, k.l.map Sum.inr, b, .inl hh, rfl, by rw [hb', map_kV], rfl⟩, _, rfl, ?_⟩
    rw [valV_enc, Option.isSome_map]
    exact q H3 (e2.trans e3)
/-- d[k] -/
theorem ev_dixI {k : TupK} {m : Int} (ha : Ev W M ta σ H x) (hb : Ev W M tb σ H k) (hm : x.kvs.lookup k.l = some m) : Ev W M (tDGet ta tb) σ H m := fun H1 e ok Q q =>
  ha H1 e ok _ fun v H2 e2 r => hb H2 (e.trans e2) (ok.ex e2) _ fun u H3 e3 r3 => by
    obtain ⟨a, rfl, hh, _⟩ := (r.up e3).di
    obtain ⟨b, rfl, hb', _⟩ := r3.tupK
    exact ⟨a, .int m, rfl, .inr ⟨_, k.l.map Sum.inr, b, .inl hh, rfl, by rw [hb', map_kV], by rw [valV_enc, hm]; rfl⟩, q _ H3 (e2.trans e3) rep_int⟩
end
/-! ### a dict that is filled -/
def putL (l : List (List Str × Int)) (k : List Str) (n : Int) : List (List Str × Int) := if (l.any fun p => decide (p.1 = k)) = true then l.map (fun p => if p.1 = k then (p.1, n) else p) else l ++ [(k, n)]
theorem enc_put (l : List (List Str × Int)) (k : List Str) (n : Int) : encD (putL l k n) = putK (encD l) (k.map Sum.inr) (.int n) := by
  have ek : ∀ a : List Str, ((a.map Sum.inr : List L2.Key) = k.map Sum.inr) ↔ a = k := fun a => ⟨map_inr_inj, fun e => by rw [e]⟩
  have ha : ((encD l).any fun kv => decide (kv.1 = (k.map Sum.inr : List L2.Key))) = l.any fun p => decide (p.1 = k) := by
    unfold encD
    rw [List.any_map]
    congr 1
    funext p
    show decide ((p.1.map Sum.inr : List L2.Key) = k.map Sum.inr) = _
    simp [ek]
  unfold putK putL
  rw [ha]
  by_cases h : (l.any fun p => decide (p.1 = k)) = true
  · rw [if_pos h, if_pos h]
    unfold encD
    rw [List.map_map, List.map_map]
    refine List.map_congr_left fun p _ => ?_
    show _ = (if (p.1.map Sum.inr : List L2.Key) = k.map Sum.inr then ((p.1.map Sum.inr : List L2.Key), V.int n) else _)
    by_cases hp : p.1 = k
    · rw [if_pos ((ek _).mpr hp)]
      simp [hp]
    · rw [if_neg (fun z => hp ((ek _).mp z))]
      simp [hp]
  · rw [if_neg h, if_neg h]
    unfold encD
    rw [List.map_append]; rfl
structure AccD (W : Wd) (M : List Addr) (σ : L2.St) (H : Hp) (k : Nat) (p : Addr) (l : List (List Str × Int)) : Prop where
  at_ : σ[k]? = some (some (.ref p))
  nb : p ≠ W.b
  nbl : p ≠ W.bl
  mem : p ∈ M
  it : H p = some (.dT (encD l))
section
variable {α : Type} [Py α] {W : Wd} {M M' N : List Addr} {σ : L2.St} {H H' : Hp} {k i : Nat} {p : Addr} {l : List (List Str × Int)} {D : Ends} {te tk : TE} {v : V} {key : TupK} {n : Int}
theorem AccD.up (h : AccD W M σ H k p l) (e : Ex W [] H H') : AccD W M σ H' k p l := ⟨h.at_, h.nb, h.nbl, h.mem, e.keep _ _ h.nb (by simp) h.it⟩
theorem AccD.setσ (h : AccD W M σ H k p l) (q : k ≠ i := by decide) : AccD W M (σ.set i (some v)) H k p l := ⟨by rw [List.getElem?_set_ne (Ne.symm q)]; exact h.at_, h.nb, h.nbl, h.mem, h.it⟩
theorem AccD.out (h : AccD W N σ H k p l) (hm : p ∉ M) : Sl W M σ H k (Di.mk l) := ⟨.ref p, h.at_, p, rfl, cut_some.mpr ⟨h.nb, hm, h.it⟩⟩
/-- d = {} -/
theorem s_dnew (ok : Ok W M H) (hk : k < σ.length) (q : ∀ p H', H p = none → Ex W [] H H' → Le (cut W M H) (cut W (p :: M) H') → Ok W (p :: M) H' → AccD W (p :: M) (σ.set k (some (.ref p))) H' k p [] → D.nx (σ.set k (some (.ref p))) H') : tAsg tDNewT (gName k) D σ H :=
  fun p hp => q p _ hp (Ex.new hp) (le_new hp) (ok.grow hp) ⟨by rw [List.getElem?_set_self hk], ok.new_b hp, ok.new_bl hp, List.mem_cons_self, upd_same⟩
/-- d[key] = n -/
theorem s_dput (ok : Ok W M H) (hA : AccD W M σ H k p l) (hl : l.length ≤ 1000) (h : Ev W M te σ H n) (hk : Ev W M tk σ H key)
    (q : ∀ H', Ex W M H H' → (∀ G M0, Ex W [] G H → Ok W M0 G → G p = none → Ex W [] G H') → Ok W M H' → AccD W M σ H' k p (putL l key.l n) → D.nx σ H') : sDPut (tVar k) tk te D σ H :=
  h H Ex.refl ok _ fun v H2 e2 r => ⟨.ref p, hA.at_, hk H2 e2 (ok.ex e2) _ fun u H3 e3 r3 => by
    cases (show v = .int n from r)
    obtain ⟨b, rfl, hb, _⟩ := r3.tupK
    have e23 := e2.trans e3
    have hp := (hA.up e23).it
    have em : Ex W M H3 (upd H3 p (.dT (encD (putL l key.l n)))) := Ex.mut hA.nb hA.nbl hA.mem
    exact ⟨p, _, rfl, .inr ⟨encD l, key.l.map Sum.inr, b, hp, rfl, by rw [hb, map_kV], by unfold encD; rw [List.length_map]; exact sl (by omega), by rw [← enc_put]⟩, q _ (e23.up.trans em) (fun G M0 eG okG hG => (eG.trans e23).mut0 okG hG) ((ok.ex e23).ex em) ⟨hA.at_, hA.nb, hA.nbl, hA.mem, upd_same⟩⟩⟩
end
end RG
namespace RG
open PySem PySem.Spec PyProof.Rows L2 StX RZ
/-! ### a zip as the argument of dict(): its pairs stay held -/
section
variable {prog : Program} {w : World} {A : Around} {E : Value → Shared → Prop} {s : Shared} {z TI TO T i1 i2 : Addr} {fp1 fp2 : List Addr} {n1 n2 i : Nat} {P1 P2 : Nat → Value → Prop} {St1 St2 : Nat → Heap → Prop} {f : Bool} {oT : Obj}
theorem zh_item {Q : Value → Shared → Prop} (S : ZipSep2 z TI TO i1 i2 fp1 fp2) (D1 : Draws prog w A i1 fp1 n1 P1 St1) (D2 : Draws prog w A i2 fp2 n2 P2 St2) (hz : IsZipHeld s.heap z TI TO T f) (hT : s.heap.get? T = some oT)
    (hp : IsTupOf2 s.heap TI (.ref i1) (.ref i2)) (g1 : St1 i s.heap) (g2 : St2 i s.heap) (c1 : i < n1) (c2 : i < n2)
    (k : ∀ x y h' tk, P1 i x → P2 i y → IsZipHeld h' z TI TO T true → St1 (i + 1) h' → St2 (i + 1) h' → IsTupOf2 h' s.heap.objs.size x y → (∀ c o, c ≠ z → c ≠ i1 → c ≠ i2 → s.heap.get? c = some o → h'.get? c = some o) → Q (.ref s.heap.objs.size) { s with heap := h', toks := tk }) :
    wpAny (model prog w) A (Builtin.«zip.__next__» ⟨[.ref z], []⟩) (fun fin s' => ∃ v, fin = .done (.ret v) ∧ Q v s') E s := by
  have zi1 := S.zi1
  have zi2 := S.zi2
  refine wpAny_bind (m := field (.ref z) 2) (wpAny_field hz rfl (x := .bool false) rfl ?_)
  refine wpAny_bind (m := field (.ref z) 3) (wpAny_field hz rfl (x := .ref TI) rfl ?_)
  refine wpAny_bind (wpAny_seqItems hp rfl (wpAny_bind (m := Builtin.SmallTypes.ownedTupleIsFree (.ref z)) (wpAny_tupleHeld_zip hz hT fun ha za sa => ?_)))
  rw [if_neg Bool.false_ne_true]
  refine wpAny_bind ?_
  rw [← Array.forIn_toList]
  simp only [List.forIn_cons, List.forIn_nil]
  refine wpAny_bind (wpAny_bind (wpAny_holding (wpAny_bind (m := Builtin.SmallTypes.nextOf (.ref i1)) (D1.item i { s with heap := ha } _ _ c1 (D1.over g1 sa S.zf1) fun x hb tk1 px d1 sb => wpAny_pure (wpAny_pure ?_)))))
  refine wpAny_bind (wpAny_bind (wpAny_holding (wpAny_bind (m := Builtin.SmallTypes.nextOf (.ref i2)) (D2.item i { s with heap := hb, toks := tk1 } _ _ c2 (D2.over (D2.over g2 sa S.zf2) sb S.sep1_2) fun y hc tk2 py d2 sc => wpAny_pure (wpAny_pure (wpAny_pure ?_))))))
  refine wpAny_bind (m := newTuple [x, y]) (wpAny_newTuple (wpAny_pure ⟨_, rfl, ?_⟩))
  have hs : hc.objs.size = s.heap.objs.size := by rw [sc.1, sb.1, sa.1]
  have hp' : IsTupOf2 (hc.push { cls := .type "tuple", data := .seq #[x, y] }) hc.objs.size x y := Heap.get?_push_size _ rfl
  show Q (.ref hc.objs.size) _
  rw [hs] at hp' ⊢
  refine k x y _ _ px py (Heap.get?_push_of_some _ (sc.extBut _ _ zi2 (sb.extBut _ _ zi1 za))) (D1.frame _ _ _ (D1.over d1 sc S.sep2_1) fun b _ o e => Heap.get?_push_of_some _ e) (D2.frame _ _ _ d2 fun b _ o e => Heap.get?_push_of_some _ e) hp' ?_
  exact fun c o q1 q2 q3 e => Heap.get?_push_of_some _ (sc.extBut _ _ q3 (sb.extBut _ _ q2 (sa.extBut _ _ q1 e)))
theorem zh_end {Q : Fin → Shared → Prop} (S : ZipSep2 z TI TO i1 i2 fp1 fp2) (D1 : Draws prog w A i1 fp1 n1 P1 St1) (D2 : Draws prog w A i2 fp2 n2 P2 St2) (hz : IsZipHeld s.heap z TI TO T f) (hT : s.heap.get? T = some oT)
    (hp : IsTupOf2 s.heap TI (.ref i1) (.ref i2)) (g1 : St1 n1 s.heap) (g2 : St2 n1 s.heap)
    (k : ∀ h' e tk, (∀ c o, c ≠ z → c ≠ i1 → c ≠ i2 → s.heap.get? c = some o → h'.get? c = some o) → (∃ o, h'.get? e = some o ∧ o.cls = .type "StopIteration") → E (.ref e) { s with heap := h', toks := tk }) :
    wpAny (model prog w) A (Builtin.«zip.__next__» ⟨[.ref z], []⟩) Q E s := by
  refine wpAny_bind (m := field (.ref z) 2) (wpAny_field hz rfl (x := .bool false) rfl ?_)
  refine wpAny_bind (m := field (.ref z) 3) (wpAny_field hz rfl (x := .ref TI) rfl ?_)
  refine wpAny_bind (wpAny_seqItems hp rfl (wpAny_bind (m := Builtin.SmallTypes.ownedTupleIsFree (.ref z)) (wpAny_tupleHeld_zip hz hT fun ha za sa => ?_)))
  rw [if_neg Bool.false_ne_true]
  refine wpAny_bind ?_
  rw [← Array.forIn_toList]
  simp only [List.forIn_cons, List.forIn_nil]
  refine wpAny_bind (wpAny_bind (wpAny_holding (wpAny_bind (m := Builtin.SmallTypes.nextOf (.ref i1)) (D1.done { s with heap := ha } _ _ (D1.over g1 sa S.zf1) fun hb e sb he => ?_))))
  exact k hb e s.toks (fun c o q1 q2 _ x => sb _ _ q2 (sa.extBut _ _ q1 x)) he
theorem zh_pyItem {Q : Option Value → Shared → Prop} (S : ZipSep2 z TI TO i1 i2 fp1 fp2) (D1 : Draws prog w A.in1 i1 fp1 n1 P1 St1) (D2 : Draws prog w A.in1 i2 fp2 n2 P2 St2) (hz : IsZipHeld s.heap z TI TO T f) (hT : s.heap.get? T = some oT)
    (hp : IsTupOf2 s.heap TI (.ref i1) (.ref i2)) (g1 : St1 i s.heap) (g2 : St2 i s.heap) (c1 : i < n1) (c2 : i < n2)
    (k : ∀ x y h' tk, P1 i x → P2 i y → IsZipHeld h' z TI TO T true → St1 (i + 1) h' → St2 (i + 1) h' → IsTupOf2 h' s.heap.objs.size x y → (∀ c o, c ≠ z → c ≠ i1 → c ≠ i2 → s.heap.get? c = some o → h'.get? c = some o) → Q (some (.ref s.heap.objs.size)) { s with heap := h', toks := tk }) :
    wpAny (model prog w) A (pyNext (.ref z)) Q E s := by
  have ty : s.TypeIs (.ref z) "zip" := ⟨_, hz, rfl⟩
  have one := zh_item (E := fun _ _ => False) (Q := fun v s' => ∃ u, v = .ref u ∧ Q (some (.ref u)) s') S D1.of_in1 D2.of_in1 hz hT hp g1 g2 c1 c2 fun x y h' tk p1 p2 a b c d e => ⟨_, rfl, k x y h' tk p1 p2 a b c d e⟩
  unfold pyNext
  refine wpAny_bind (wpAny_attempt (wpAny_callSpecial?_slot (name := Str.ofString "__next__") ty F.slot_zip_next (wpAny_call_entry F.slot_zip_next ty F.entry_zip_next ?_ (F.args_zip_next_1 _))))
  refine zh_item S D1 D2 hz hT hp g1 g2 c1 c2 fun x y h' tk p1 p2 a b c d e => ?_
  exact wpAny_pure (k x y h' tk p1 p2 a b c d e)
theorem zh_pyEnd {Q : Option Value → Shared → Prop} (S : ZipSep2 z TI TO i1 i2 fp1 fp2) (D1 : Draws prog w A.in1 i1 fp1 n1 P1 St1) (D2 : Draws prog w A.in1 i2 fp2 n2 P2 St2) (hz : IsZipHeld s.heap z TI TO T f) (hT : s.heap.get? T = some oT)
    (hp : IsTupOf2 s.heap TI (.ref i1) (.ref i2)) (g1 : St1 n1 s.heap) (g2 : St2 n1 s.heap)
    (k : ∀ h' tk, (∀ c o, c ≠ z → c ≠ i1 → c ≠ i2 → s.heap.get? c = some o → h'.get? c = some o) → Q none { s with heap := h', toks := tk }) :
    wpAny (model prog w) A (pyNext (.ref z)) Q E s := by
  have ty : s.TypeIs (.ref z) "zip" := ⟨_, hz, rfl⟩
  unfold pyNext
  refine wpAny_bind (wpAny_attempt (wpAny_callSpecial?_slot (name := Str.ofString "__next__") ty F.slot_zip_next (wpAny_call_entry F.slot_zip_next ty F.entry_zip_next ?_ (F.args_zip_next_1 _))))
  refine zh_end S D1 D2 hz hT hp g1 g2 fun h' e tk hk ⟨o, ho, hc⟩ => ?_
  exact wpAny_bind (wpAny_isInstance (T := "StopIteration") (b := true) ⟨o, ho, hc⟩ isSubtype_stop (wpAny_pure (k h' tk hk)))
end
/-- a zip of two iterators of any kind, as many items each, as dict's argument -/
theorem zipArg {prog : Program} {w : World} {z TI TO i1 i2 : Addr} {fp1 fp2 : List Addr} {n : Nat} {P1 P2 : Nat → Value → Prop} {St1 St2 : Nat → Heap → Prop} (S : ZipSep2 z TI TO i1 i2 fp1 fp2)
    (D1 : ∀ A : Around, A.handled = none → Draws prog w A i1 fp1 n P1 St1) (D2 : ∀ A : Around, A.handled = none → Draws prog w A i2 fp2 n P2 St2) (t1 : ∀ h, St1 0 h → ∀ b ∈ fp1, ∃ o, h.get? b = some o) (t2 : ∀ h, St2 0 h → ∀ b ∈ fp2, ∃ o, h.get? b = some o)
    (fr1 : ∀ i h h', St1 i h → (∀ b ∈ fp1, ∀ o, h.get? b = some o → h'.get? b = some o) → St1 i h') (fr2 : ∀ i h h', St2 i h → (∀ b ∈ fp2, ∀ o, h.get? b = some o → h'.get? b = some o) → St2 i h') :
    PairArg prog w "zip" z (z :: TI :: TO :: (fp1 ++ fp2)) [z, TO, i1, i2] n (fun i k v => P1 i k ∧ P2 i v)
      (fun h => IsZip h z TI TO .none ∧ IsTupOf2 h TI (.ref i1) (.ref i2) ∧ (∃ a b, IsTupOf2 h TO a b) ∧ St1 0 h ∧ St2 0 h) where
  type := fun s ok => ⟨_, ok.1, rfl⟩
  notDict := by decide
  keep := fun h h' ⟨a, b, ⟨c, d, e⟩, g1, g2⟩ k => ⟨k _ _ a, k _ _ b, ⟨c, d, k _ _ e⟩, fr1 _ _ _ g1 fun b _ o e => k b o e, fr2 _ _ _ g2 fun b _ o e => k b o e⟩
  there := fun h ⟨a, b, ⟨c, d, e⟩, g1, g2⟩ x hx => by
    rcases List.mem_cons.mp hx with rfl | hx
    · exact ⟨_, a⟩
    rcases List.mem_cons.mp hx with rfl | hx
    · exact ⟨_, b⟩
    rcases List.mem_cons.mp hx with rfl | hx
    · exact ⟨_, e⟩
    exact (List.mem_append.mp hx).elim (t1 h g1 x) (t2 h g2 x)
  sub := fun b hb => by
    simp only [List.mem_cons, List.not_mem_nil, or_false] at hb
    rcases hb with rfl | rfl | rfl | rfl
    · simp
    · simp
    · simp [S.mem1]
    · simp [S.mem2]
  noKeys := fun A s Q E hA ok h => getAttrOr_miss_zip ok.1 rfl rfl rfl zip_no_keys (by decide +kernel) hA h
  iter := fun A s d Q E hA ok hd hdf h => by
    obtain ⟨hz, hp, ⟨a, b, ho⟩, g1, g2⟩ := ok
    have dz : d ≠ z := fun e => hdf (by simp [e])
    have dTI : d ≠ TI := fun e => hdf (by simp [e])
    have dTO : d ≠ TO := fun e => hdf (by simp [e])
    have df1 : d ∉ fp1 := fun e => hdf (by simp [e])
    have df2 : d ∉ fp2 := fun e => hdf (by simp [e])
    have d1 : d ≠ i1 := fun e => df1 (e ▸ S.mem1)
    have d2 : d ≠ i2 := fun e => df2 (e ▸ S.mem2)
    have hA1 : A.in1.handled = none := hA
    refine wpAny_pyIter_zip hz (h z [z, TO, i1, i2] (fun i h => IsTupOf2 h TI (.ref i1) (.ref i2) ∧ St1 i h ∧ St2 i h ∧ ((IsZip h z TI TO .none ∧ ∃ a b, IsTupOf2 h TO a b) ∨ ∃ T f oT, IsZipHeld h z TI TO T f ∧ h.get? T = some oT ∧ T ≠ z ∧ T ≠ i1 ∧ T ≠ i2 ∧ T ≠ d)) s.heap s.toks ?_ ⟨hp, g1, g2, .inl ⟨hz, a, b, ho⟩⟩ (fun _ _ e => e) fun b hb => .inl hb)
    refine { off := ?_, frame := ?_, item := ?_, done := ?_ }
    · intro hm
      simp only [List.mem_cons, List.not_mem_nil, or_false] at hm
      rcases hm with e | e | e | e
      · exact dz e
      · exact dTO e
      · exact d1 e
      · exact d2 e
    · rintro i h1 h2 ⟨q1, q2, q3, q4⟩ hk
      refine ⟨hk _ _ dTI.symm q1, fr1 _ _ _ q2 fun b hb o e => hk b o (fun x => df1 (x ▸ hb)) e, fr2 _ _ _ q3 fun b hb o e => hk b o (fun x => df2 (x ▸ hb)) e, ?_⟩
      rcases q4 with ⟨q4, x, y, q5⟩ | ⟨T, f, oT, q4, q5, r1, r2, r3, r4⟩
      · exact .inl ⟨hk _ _ dz.symm q4, x, y, hk _ _ dTO.symm q5⟩
      · exact .inr ⟨T, f, oT, hk _ _ dz.symm q4, hk _ _ r4 q5, r1, r2, r3, r4⟩
    · rintro i s1 Q1 E1 hi ⟨q1, q2, q3, q4⟩ hds hQ
      have away : ∀ {c o}, s1.heap.get? c = some o → s1.heap.objs.size ≠ c := fun e => Nat.ne_of_gt (Heap.lt_size e)
      have n1 : s1.heap.objs.size ≠ i1 := let ⟨_, e⟩ := (D1 A.in1 hA1).live _ _ q2; away e
      have n2 : s1.heap.objs.size ≠ i2 := let ⟨_, e⟩ := (D2 A.in1 hA1).live _ _ q3; away e
      rcases q4 with ⟨q4, x, y, q5⟩ | ⟨T, f, oT, q4, q5, r1, r2, r3, r4⟩
      · refine wpAny_pyNext_zipD2_item S (D1 A.in1 hA1) (D2 A.in1 hA1) q4 q1 q5 q2 q3 hi hi fun x1 x2 h' tk p1 p2 b1 b2 e1 e2 b5 b6 hk => ?_
        exact hQ _ x1 x2 h' tk ⟨p1, p2⟩ (.inl ⟨_, b5, rfl, _, rfl⟩) ⟨hk _ _ S.TIz S.TITO S.TIi1 S.TIi2 q1, e1, e2, .inr ⟨_, false, _, b1, b5, away q4, n1, n2, Nat.ne_of_gt hds⟩⟩
          fun c o hc e => hk c o (fun x => hc (by simp [x])) (fun x => hc (by simp [x])) (fun x => hc (by simp [x])) (fun x => hc (by simp [x])) e
      · refine zh_pyItem S (D1 A.in1 hA1) (D2 A.in1 hA1) q4 q5 q1 q2 q3 hi hi fun x1 x2 h' tk p1 p2 b1 e1 e2 b5 hk => ?_
        exact hQ _ x1 x2 h' tk ⟨p1, p2⟩ (.inl ⟨_, b5, rfl, _, rfl⟩) ⟨hk _ _ S.TIz S.TIi1 S.TIi2 q1, e1, e2, .inr ⟨T, true, oT, b1, hk _ _ r1 r2 r3 q5, r1, r2, r3, r4⟩⟩
          fun c o hc e => hk c o (fun x => hc (by simp [x])) (fun x => hc (by simp [x])) (fun x => hc (by simp [x])) e
    · rintro s1 Q1 E1 ⟨q1, q2, q3, q4⟩ hQ
      rcases q4 with ⟨q4, x, y, q5⟩ | ⟨T, f, oT, q4, q5, r1, r2, r3, r4⟩
      · exact wpAny_pyNext_zipD2_end S (D1 A.in1 hA1) (D2 A.in1 hA1) q4 q1 q5 q2 q3 (Nat.le_refl _) (Nat.le_refl _) (by omega) fun h' tk hk => hQ h' tk fun c o hc e => hk c o (fun x => hc (by simp [x])) (fun x => hc (by simp [x])) (fun x => hc (by simp [x])) (fun x => hc (by simp [x])) e
      · exact zh_pyEnd S (D1 A.in1 hA1) (D2 A.in1 hA1) q4 q5 q1 q2 q3 fun h' tk hk => hQ h' tk fun c o hc e => hk c o (fun x => hc (by simp [x])) (fun x => hc (by simp [x])) (fun x => hc (by simp [x])) e
end RG
namespace RG
open PySem PySem.Spec PyProof.Rows L2 StX RZ
/-! ### dicts of tuple keys, made of pairs -/
abbrev Kq := List (List L2.Key × Addr)
/-- keys, their tuples, values -/
def trip (kqs : Kq) (us : List Value) : List (List L2.Key × Addr × Value) := (kqs.zip us).map fun p => (p.1.1, p.1.2, p.2)
theorem trip_keys : ∀ {kqs : Kq} {us : List Value}, kqs.length = us.length → (trip kqs us).map (·.1) = kqs.map (·.1)
  | [], [], _ => rfl
  | [], _ :: _, h => by cases h
  | _ :: _, [], h => by cases h
  | k :: kqs, u :: us, h => by
    have ih := trip_keys (kqs := kqs) (us := us) (by simpa using h)
    unfold trip at ih ⊢
    rw [List.zip_cons_cons, List.map_cons, List.map_cons, List.map_cons, ih]
theorem trip_len {kqs : Kq} {us : List Value} (h : kqs.length = us.length) : (trip kqs us).length = kqs.length := by unfold trip; rw [List.length_map, List.length_zip, h, Nat.min_self]
theorem trip_at {kqs : Kq} {us : List Value} {i : Nat} {k : List L2.Key} {q : Addr} {u : Value} (h1 : kqs[i]? = some (k, q)) (h2 : us[i]? = some u) : (trip kqs us)[i]? = some (k, q, u) := by
  unfold trip
  rw [List.getElem?_map, (List.getElem?_zip_eq_some (z := ((k, q), u))).mpr ⟨h1, h2⟩]; rfl
theorem stored_new : ∀ {ps xs : List (List L2.Key × Addr × Value)}, ((xs ++ ps).map (·.1)).Nodup → storedAllH xs ps = xs ++ ps
  | [], xs, _ => by rw [List.append_nil]; rfl
  | p :: ps, xs, h => by
    have hn : atKey xs p.1 = none := by
      unfold atKey
      rw [Option.map_eq_none_iff, List.find?_eq_none]
      intro y hy e
      rw [List.map_append, List.nodup_append] at h
      exact h.2.2 y.1 (List.mem_map_of_mem hy) p.1 (by simp) (of_decide_eq_true e)
    show storedAllH (storedH xs p.1 p.2.1 p.2.2) ps = _
    rw [storedH_new hn, stored_new (by rw [List.append_assoc]; exact h), List.append_assoc]; rfl
theorem trip_kt {H : Hp} : ∀ {kqs : Kq} {vs : List V} {us : List Value}, (∀ p ∈ kqs, H p.2 = some (.tup (p.1.map kV))) → Vals vs us → kqs.length = us.length → KT H ((kqs.map (·.1)).zip vs) (trip kqs us)
  | [], _, [], _, .nil, _ => .nil
  | [], _, _ :: _, _, _, h => by cases h
  | _ :: _, _, [], _, _, h => by cases h
  | k :: kqs, _, _ :: _, hq, .cons r rs, h => .cons ⟨rfl, hq k (by simp), r⟩ (trip_kt (fun p hp => hq p (List.mem_cons_of_mem _ hp)) rs (by simpa using h))
theorem val_get : ∀ {vs : List V} {us : List Value} {i : Nat} {u : Value}, Vals vs us → us[i]? = some u → ∃ v, vs[i]? = some v ∧ RelV v u
  | _, _, i, u, .nil, e => by simp at e
  | _, _, 0, u, .cons r _, e => by cases (show some _ = some _ from e); exact ⟨_, rfl, r⟩
  | _, _, i + 1, u, .cons _ t, e => val_get (i := i) t e
theorem not4 {N c : Nat} (h : c < N) : c ∉ [N + 4, N + 3, N, N + 1] := by
  simp only [List.mem_cons, List.not_mem_nil, or_false, not_or]
  omega
theorem ne5 {N c : Nat} (h : c < N) : c ≠ N + 5 := by omega
section
variable {X : Cx}
/-- the keys stand, whatever is laid beside -/
theorem key_stay {pins : List (Addr × Obj)} {σ : L2.St} {H : Hp} {s : Shared} (I : Inv X pins σ H s) {q : Addr} {k : List L2.Key} (h : H q = some (.tup (k.map kV))) {h' : Heap} (hk : ∀ b o, s.heap.get? b = some o → h'.get? b = some o) : (tupleKind (mixKind X.prog X.w)).is h' k q := by
  obtain ⟨o, vs, n, h1, h2, h3, it⟩ := key_of I.hok h
  exact ⟨o, vs, n, hk _ _ h1, h2, h3, it⟩
/-- dict(zip(a, b)): the keys of a tuple, the values of a list or a tuple -/
def tDictZip (K : PySem.W.Frag) (ta : TA) : TE := fun σ H Q => ta σ H fun xs H2 => ∃ (a b : Addr) (kqs : Kq) (vs : List V), xs = [.ref a, .ref b] ∧ SqT K H2 a (kqs.map fun p => V.ref p.2) ∧ (SqL K H2 b vs ∨ SqT K H2 b vs) ∧ (∀ p ∈ kqs, H2 p.2 = some (.tup (p.1.map kV))) ∧
  vs.length = kqs.length ∧ (kqs.map (·.1)).Nodup ∧ ∀ p, H2 p = none → Q (.ref p) (upd H2 p (.dT ((kqs.map (·.1)).zip vs)))
theorem zip_dict {pins : List (Addr × Obj)} {σ : L2.St} {H : Hp} {s : Shared} {Q : VK} {a b : Addr} {kqs : Kq} {vs : List V} {us : List Value} {o2 : Obj} {Hb : Heap → Prop} {fp2 : Addr → List Addr} {St2 : Addr → Nat → Heap → Prop} (hc : X.calm = true) (hu : X.A.units + 64 < cLine) (I : Inv X pins σ H s)
    (hqa : SqT X.K H a (kqs.map fun p => V.ref p.2)) (hkq : ∀ p ∈ kqs, H p.2 = some (.tup (p.1.map kV))) (hn : (kqs.map (·.1)).Nodup) (rv : Vals vs us) (hl : us.length = kqs.length)
    (B2 : Begins (.ref b) o2 Hb) (hb : Hb s.heap) (m2 : ∀ it, it ∈ fp2 it) (low : ∀ it x, x ∈ fp2 it → x = it ∨ x < s.heap.objs.size)
    (D2 : ∀ (A : Around) it, s.heap.objs.size ≤ it → A.handled = none → Draws X.prog X.w A it (fp2 it) us.length (fun i v => us[i]? = some v) (St2 it)) (t2 : ∀ it h, St2 it 0 h → ∀ x ∈ fp2 it, ∃ o, h.get? x = some o)
    (st2 : ∀ it h, h.get? it = some o2 → (∀ c o, s.heap.get? c = some o → h.get? c = some o) → St2 it 0 h)
    (q : ∀ p, H p = none → Q (.ref p) (upd H p (.dT ((kqs.map (·.1)).zip vs)))) {E : Value → Shared → Prop} :
    wpAny (model X.prog X.w) X.A (call (.type "zip") [.ref a, .ref b]) (fun v s2 => wpAny (model X.prog X.w) X.A (call (.type "dict") [v]) (EP X pins σ Q) E s2) E s := by
  obtain ⟨its, rv1, pl1, z1⟩ := I.tuple hqa
  have hla : its.length = kqs.length := by rw [← rv1.length, List.length_map]
  have hsm : (s.heap.objs.size == sysModules) = false := beq_eq_false_iff_ne.mpr (Nat.ne_of_gt I.big)
  have pa : s.heap.IsTuple a its.toArray := pl1
  refine zip_begins2 (begins_tuple a its.toArray) B2 pa hb fun h1 gz gp go g1 g2 hsz hk => ?_
  generalize hN : s.heap.objs.size = N at *
  have ha : @LT.lt Nat _ a N := by obtain ⟨o, e, _⟩ := pa; rw [← hN]; exact Heap.lt_size e
  have low2 : ∀ c : Nat, N + 1 < c → c ∉ fp2 (N + 1) := fun c hc hm => by
    have : @Eq Nat c (N + 1) ∨ @LT.lt Nat _ c N := low (N + 1) c hm
    omega
  have up : ∀ i j : Nat, i < j → @Ne Nat (N + j) (N + i) := fun i j h => by omega
  have up' : ∀ i j : Nat, j < i → @Ne Nat (N + j) (N + i) := fun i j h => by omega
  have off : ∀ j : Nat, 0 < j → (N + j) ∉ [N, a] := fun j hj hm => by
    rcases List.mem_cons.mp hm with e | hm
    · have e : @Eq Nat (N + j) N := e
      omega
    · have e : @Eq Nat (N + j) a := List.mem_singleton.mp hm
      omega
  have S : ZipSep2 (N + 4) (N + 2) (N + 3) N (N + 1) [N, a] (fp2 (N + 1)) :=
    { TIz := up' 4 2 (by decide), TOz := up' 4 3 (by decide), TITO := up' 3 2 (by decide), TIi1 := up 0 2 (by decide), mem1 := by simp, zf1 := off 4 (by decide), Tf1 := off 3 (by decide), TIi2 := up 1 2 (by decide), mem2 := m2 _, zf2 := low2 _ (by omega), Tf2 := low2 _ (by omega), sep1_2 := fun hm => by
        have : @Eq Nat N (N + 1) ∨ @LT.lt Nat _ N N := low (N + 1) N hm
        omega, sep2_1 := off 1 (by decide) }
  have pa1 : h1.IsTuple a its.toArray := pa.at fun o e => hk a o e
  have P := zipArg (prog := X.prog) (w := X.w) (n := its.length) S (fun A hA => (Draws.tuple hA N a (Nat.ne_of_lt ha) its.toArray)) (fun A hA => by have := D2 A (N + 1) (by omega) hA; rw [hl, ← hla] at this; exact this)
    (fun h st x hx => by
      rcases List.mem_cons.mp hx with rfl | hx
      · obtain ⟨o, e, _⟩ := st.1; exact ⟨o, e⟩
      · rw [List.mem_singleton.mp hx]; obtain ⟨o, e, _⟩ := st.2; exact ⟨o, e⟩) (t2 (N + 1))
    (fun i h h' st hk => (Draws.tuple (prog := X.prog) (w := X.w) (A := X.A) (I.ok.hd hc) N a (Nat.ne_of_lt ha) its.toArray).frame i h h' st hk) (fun i h h' st hk => (D2 X.A (N + 1) (by omega) (I.ok.hd hc)).frame i h h' st hk)
  refine call_dict_pairsH (knd := tupleKind (mixKind X.prog X.w)) (ps := trip kqs us) P (I.ok.hd hc) (show X.A.in1.in1.units < cLine by have e : X.A.in1.in1.units = X.A.units + 1 + 1 := rfl; omega) ⟨gz, gp, ⟨_, _, go⟩, ⟨⟨_, g1, rfl, rfl⟩, pa1⟩, st2 _ _ g2 hk⟩ ?_ ?_ (by rw [← rv1.length]; exact z1) fun h2 tk hd' hk2 => ?_
  · refine ⟨by rw [trip_len hl.symm, hla], fun i key v ⟨e1, e2⟩ => ?_⟩
    obtain ⟨p, hp, rp⟩ := val_get (i := i) rv1 (by simpa using e1)
    rw [List.getElem?_map] at hp
    cases hq : kqs[i]? with
    | none => rw [hq] at hp; cases hp
    | some kq =>
      rw [hq] at hp
      cases hp
      cases (show key = Value.ref kq.2 from rp)
      exact ⟨kq.1, kq.2, trip_at hq e2, rfl⟩
  · intro h' hk' x hx
    unfold trip at hx
    obtain ⟨p, hp, rfl⟩ := List.mem_map.mp hx
    have hm := (List.of_mem_zip hp).1
    refine key_stay I (hkq _ hm) fun c o e => hk' c o ?_ (not4 (by rw [← hN]; exact Heap.lt_size e)) (hk c o e)
    rw [hsz]
    exact ne5 (by rw [← hN]; exact Heap.lt_size e)
  · rw [stored_new (by rw [List.nil_append, trip_keys hl.symm]; exact hn), List.nil_append] at hd'
    have kp : ∀ c o, s.heap.get? c = some o → h2.get? c = some o := fun c o e => hk2 c o (not4 (by rw [← hN]; exact Heap.lt_size e)) (hk c o e)
    have hp0 : H h1.objs.size = none := I.hok.fresh (by rw [hN, hsz]; omega)
    refine ⟨.ref h1.objs.size, _, I.laid (t' := tk) kp (by rw [hN, hsz]; omega) ?_, rfl, q _ hp0⟩
    obtain ⟨o, es, ep, r1, r2, r3, r4, r5, r6⟩ := hd'
    refine ⟨?_, beq_eq_false_iff_ne.mpr ?_, trip kqs us, trip_kt (fun p hp => ?_) rv hl.symm, o, es, ep, r1, r2, r3, r4, r6⟩
    · rw [List.length_zip, List.length_map, rv.length, hl, Nat.min_self, ← hla, ← rv1.length]; exact z1
    · have h5 : sysModules < N := by rw [← hN]; exact I.big
      rw [hsz]
      exact (ne5 h5).symm
    · rw [upd_ne (fun e => by rw [← e, hkq p hp] at hp0; cases hp0)]; exact hkq p hp
theorem pe_dictZip {e e2 : Expr} {ta : TA} {p p2 pos pos2 : Pos} (hc : X.calm = true) (hu : X.A.units + 64 < cLine) (hg : Gl X "dict") (hm : X.mg "dict" = none) (hg2 : Gl X "zip") (hm2 : X.mg "zip" = none) (ha : PA X [e, e2] ta)
    (hs : starEach [e, e2] X.env = (false, eval e X.env) :: starEach [e2] X.env := by rfl) (hpl : (backTo pos2 (starEach [e2] X.env)).any (·.1) = false := by rfl)
    (hs2 : starEach [.Call (.Name "zip" p2) [e, e2] [] pos2] X.env = (false, eval (.Call (.Name "zip" p2) [e, e2] [] pos2) X.env) :: starEach [] X.env := by rfl) :
    PE X (.Call (.Name "dict" p) [.Call (.Name "zip" p2) [e, e2] [] pos2] [] pos) (tDictZip X.K ta) := by
  refine ⟨fun pins s σ H Q I h => ?_⟩
  refine Call_ (ld_blt I hg hm PyProof.Rows.boot_dict (PyProof.Rows.callWith_type1 (args_cons (Call_ (ld_blt I hg2 hm2 PyProof.Rows.boot_zip (PyProof.Rows.callWith_type1 (thn (ha.run pos2 pins s σ H _ I h) fun us1 s1 ⟨vs1, H1, I1, r1, q1⟩ => ?_) hs hpl))) hs2) hs2 rfl))
  obtain ⟨a, b, kqs, vs, rfl, hqa, hqb, hkq, hl, hn, q⟩ := q1
  cases r1 with
  | cons ra rr =>
    cases rr with
    | cons rb rr =>
      cases rr
      cases ra
      cases rb
      have key : wpAny (model X.prog X.w) X.A (call (.type "zip") [.ref a, .ref b]) (fun v s2 => wpAny (model X.prog X.w) X.A (call (.type "dict") [v]) (EP X pins σ Q) X.xe s2) X.xe s1 := by
        rcases hqb with hqb | hqb
        · obtain ⟨its, rv, pl, _⟩ := I1.list hqb
          have hb : ∀ {o : Obj}, s1.heap.get? b = some o → b < s1.heap.objs.size := fun e => Heap.lt_size e
          have hb' : b < s1.heap.objs.size := by obtain ⟨o, n, e, _⟩ := pl; exact hb e
          exact zip_dict (fp2 := fun it => [it, b]) (St2 := fun it i h => h.IsListIter it b i ∧ h.IsList b its.toArray) hc hu I1 hqa hkq hn rv (by rw [← rv.length]; exact hl) (begins_list b its.toArray) pl.isList (fun _ => by simp)
            (fun it x hx => (List.mem_cons.mp hx).imp id fun hx => by rw [List.mem_singleton.mp hx]; exact hb') (fun A it hit hA => by simpa using Draws.list hA it b (Nat.ne_of_lt (Nat.lt_of_lt_of_le hb' hit)) its.toArray)
            (fun it h st x hx => by
              rcases List.mem_cons.mp hx with rfl | hx
              · obtain ⟨o, e, _⟩ := st.1; exact ⟨o, e⟩
              · rw [List.mem_singleton.mp hx]; obtain ⟨o, e, _⟩ := st.2; exact ⟨o, e⟩) (fun it h g hk => ⟨⟨_, g, rfl, rfl⟩, pl.isList.at fun o e => hk _ o e⟩) q
        · obtain ⟨its, rv, pl, _⟩ := I1.tuple hqb
          have pb : s1.heap.IsTuple b its.toArray := pl
          have hb' : b < s1.heap.objs.size := by obtain ⟨o, e, _⟩ := pb; exact Heap.lt_size e
          exact zip_dict (fp2 := fun it => [it, b]) (St2 := fun it i h => h.IsTupleIter it b i ∧ h.IsTuple b its.toArray) hc hu I1 hqa hkq hn rv (by rw [← rv.length]; exact hl) (begins_tuple b its.toArray) pb (fun _ => by simp)
            (fun it x hx => (List.mem_cons.mp hx).imp id fun hx => by rw [List.mem_singleton.mp hx]; exact hb') (fun A it hit hA => by simpa using Draws.tuple hA it b (Nat.ne_of_lt (Nat.lt_of_lt_of_le hb' hit)) its.toArray)
            (fun it h st x hx => by
              rcases List.mem_cons.mp hx with rfl | hx
              · obtain ⟨o, e, _⟩ := st.1; exact ⟨o, e⟩
              · rw [List.mem_singleton.mp hx]; obtain ⟨o, e, _⟩ := st.2; exact ⟨o, e⟩) (fun it h g hk => ⟨⟨_, g, rfl, rfl⟩, pb.at fun o e => hk _ o e⟩) q
      exact wpAny_mono key (fun v s2 hv => args_nil hv) fun _ _ x => x
/-- dict(xs) of a list of pairs (a tuple that is a key, a value), the keys unlike -/
def rDictPairs (K : PySem.W.Frag) : List V → Hp → VK → Prop := fun xs H Q => ∃ (a : Addr) (ts : List Addr) (kqs : Kq) (vs : List V), xs = [.ref a] ∧ SqL K H a (ts.map V.ref) ∧ Paired (fun t (p : (List L2.Key × Addr) × V) => SqT K H t [.ref p.1.2, p.2]) ts (kqs.zip vs) ∧ (∀ p ∈ kqs, H p.2 = some (.tup (p.1.map kV))) ∧
  vs.length = kqs.length ∧ (kqs.map (·.1)).Nodup ∧ ∀ p, H p = none → Q (.ref p) (upd H p (.dT ((kqs.map (·.1)).zip vs)))
theorem pairs_at {pins : List (Addr × Obj)} {σ : L2.St} {H : Hp} {s : Shared} (I : L2.Inv X pins σ H s) : ∀ {ts : List Addr} {kqs : Kq} {vs : List V}, vs.length = kqs.length → Paired (fun t (p : (List L2.Key × Addr) × V) => SqT X.K H t [.ref p.1.2, p.2]) ts (kqs.zip vs) →
    ∃ us : List Value, Vals vs us ∧ ts.length = us.length ∧ ∀ (j : Nat) (x : List L2.Key × Addr × Value), (trip kqs us)[j]? = some x → ∃ t : Addr, ts[j]? = some t ∧ IsTup s.heap t #[.ref x.2.1, x.2.2]
  | ts, [], [], _, h => by
    cases h
    exact ⟨[], .nil, rfl, fun j x e => by simp [trip] at e⟩
  | _, [], _ :: _, h, _ => by cases h
  | _, _ :: _, [], h, _ => by cases h
  | _, kq :: kqs, v :: vs, hl, .cons (a := t) h r => by
    obtain ⟨us, rv, hl', hp⟩ := pairs_at I (by simpa using hl) r
    obtain ⟨its, rv2, ht, _⟩ := I.tuple h
    obtain ⟨u, y, ei, ru, ry⟩ := vals2 rv2
    subst ei
    cases (show u = Value.ref kq.2 from ru)
    refine ⟨y :: us, .cons ry rv, by rw [List.length_cons, List.length_cons, hl'], fun j x e => ?_⟩
    cases j with
    | zero =>
      cases (show some _ = some _ from e)
      exact ⟨t, rfl, ht⟩
    | succ j => exact hp j x e
theorem cr_dictPairs (hc : X.calm = true) (hu : X.A.units + 64 < cLine) : CallR X (.type "dict") (rDictPairs X.K) := by
  intro pins s σ H xs us Q I r h
  obtain ⟨a, ts, kqs, vs, rfl, hqa, hp, hkq, hl, hn, q⟩ := h
  obtain ⟨u, rfl, ru⟩ := r.one
  cases ru
  obtain ⟨its, rv, pl, hz⟩ := I.list hqa
  have ei := refs_at rv
  subst ei
  rw [List.length_map] at hz
  obtain ⟨ws, rw_, hl2, hpr⟩ := pairs_at I hl hp
  have hlw : kqs.length = ws.length := by rw [← rw_.length]; exact hl.symm
  have hps : ((trip kqs ws).map fun x => (Value.ref x.2.1, x.2.2)).length = ts.length := by rw [List.length_map, trip_len hlw, hlw, hl2]
  refine call_dict_pairsH (knd := tupleKind (mixKind X.prog X.w)) (ps := trip kqs ws) (PairArg.list a (ts.map Value.ref).toArray (fun j => ts.getD j 0) ((trip kqs ws).map fun x => (Value.ref x.2.1, x.2.2))) (I.ok.hd hc)
    (show X.A.in1.in1.units < cLine by have e : X.A.in1.in1.units = X.A.units + 1 + 1 := rfl; omega) ⟨?_, ?_⟩ ⟨by rw [List.length_map], fun i key v e => ?_⟩ ?_ (by rw [hps]; exact hz) fun h' tk hd' hk => ?_
  · obtain ⟨o, n, e, h1, h2, h3⟩ := pl
    exact ⟨o, n, e, h1, h2, h3⟩
  · refine ⟨by rw [hps]; simp, fun j k v e => ?_⟩
    rw [List.getElem?_map] at e
    cases hx : (trip kqs ws)[j]? with
    | none => rw [hx] at e; cases e
    | some x =>
      rw [hx] at e
      cases e
      obtain ⟨t, ht, h2⟩ := hpr j x hx
      have hd : ts.getD j 0 = t := by rw [List.getD_eq_getElem?_getD, ht]; rfl
      refine ⟨by simp [ht], .inl ?_⟩
      show s.heap.IsTuple (ts.getD j 0) _
      rw [hd]; exact h2
  · have e : ((trip kqs ws).map fun x => (Value.ref x.2.1, x.2.2))[i]? = some (key, v) := e
    rw [List.getElem?_map] at e
    cases hx : (trip kqs ws)[i]? with
    | none => rw [hx] at e; cases e
    | some x =>
      rw [hx] at e
      cases e
      exact ⟨x.1, x.2.1, rfl, rfl⟩
  · intro h' hk x hx
    unfold trip at hx
    obtain ⟨p, hp', rfl⟩ := List.mem_map.mp hx
    exact key_stay I (hkq _ (List.of_mem_zip hp').1) fun c o e => hk c o (Nat.ne_of_lt (Heap.lt_size e)) (by simp) e
  · rw [stored_new (by rw [List.nil_append, trip_keys hlw]; exact hn), List.nil_append] at hd'
    have hp0 : H s.heap.objs.size = none := I.hok.fresh (Nat.le_refl _)
    refine ⟨.ref s.heap.objs.size, _, I.laid (t' := tk) (fun c o e => hk c o (by simp) e) (Nat.le_refl _) ?_, rfl, q _ hp0⟩
    obtain ⟨o, es, ep, r1, r2, r3, r4, r5, r6⟩ := hd'
    refine ⟨?_, beq_eq_false_iff_ne.mpr (Nat.ne_of_gt I.big), trip kqs ws, trip_kt (fun p hp => ?_) rw_ hlw, o, es, ep, r1, r2, r3, r4, r6⟩
    · rw [List.length_zip, List.length_map, hl, Nat.min_self, hlw, ← hl2]; exact hz
    · rw [upd_ne (fun e => by rw [← e, hkq p hp] at hp0; cases hp0)]; exact hkq p hp
end
end RG
namespace RG
open PySem PySem.Spec PyProof.Rows L2 StX RZ TL
theorem u1 {k : Nat} {A : Around} (r : Room k A) : A.units + 1 < cLine := by have := r.un; omega
/-! ### data without lists and dicts -/
def Fy (o : HO) : Prop := (∀ xs, o ≠ .lst xs) ∧ ∀ kvs, o ≠ .dT kvs
class Fyz (α : Type) [Py α] where
  fy : ∀ {W : Wd} {G G' : Hp} {v : V} {x : α}, (∀ a o, G a = some o → Fy o → G' a = some o) → Py.rep W G v x → Py.rep W G' v x
theorem fy_tup {xs : List V} : Fy (.tup xs) := ⟨fun _ z => (nomatch z), fun _ z => (nomatch z)⟩
theorem fy_frz {o : Obj} {u : HO} : Fy (.frz o u) := ⟨fun _ z => (nomatch z), fun _ z => (nomatch z)⟩
theorem fy_ins {C dx : Addr} {fs : List (Str × V)} : Fy (.ins C dx fs) := ⟨fun _ z => (nomatch z), fun _ z => (nomatch z)⟩
instance : Fyz Str := ⟨fun _ h => h⟩
instance : Fyz Int := ⟨fun _ h => h⟩
instance : Fyz Bool := ⟨fun _ h => h⟩
instance : Fyz TupK := ⟨fun q ⟨a, e, h⟩ => ⟨a, e, q _ _ h fy_tup⟩⟩
theorem fy_rd {G G' : Hp} (q : ∀ a o, G a = some o → Fy o → G' a = some o) {a : Addr} {vs : List V} (h : Rd G a (.tup vs)) : Rd G' a (.tup vs) :=
  h.elim (fun h => .inl (q _ _ h fy_tup)) fun ⟨o, h⟩ => .inr ⟨o, q _ _ h fy_frz⟩
instance {α : Type} [Py α] [Fyz α] : Fyz (Tup α) := ⟨fun q ⟨a, vs, e, h, p⟩ => ⟨a, vs, e, fy_rd q h, paired_mono (fun _ _ r => Fyz.fy q r) p⟩⟩
instance {α β : Type} [Py α] [Py β] [Fyz α] [Fyz β] : Fyz (α × β) := ⟨fun q ⟨a, v1, v2, e, h, r1, r2⟩ => ⟨a, v1, v2, e, fy_rd q h, Fyz.fy q r1, Fyz.fy q r2⟩⟩
section
variable {α β : Type} [Py α] [Py β] {W : Wd} {M N : List Addr} {σ : L2.St} {H H' : Hp} {ta tb tc te : TE} {v : V} {x : Di} {i k : Nat} {D : Ends}
/-! ### isinstance -/
theorem ev_isDict (ha : Ev W M ta σ H x) : Ev W M (tCB (rIsi W.K) (tCons ta (tCons (tC (.ty "dict")) tNil))) σ H true :=
  ev_isi ha (fun v H2 r => by obtain ⟨a, rfl, h, _⟩ := r.di; exact .base (.dT h)) (.ty "dict") (kit_ty (by decide +kernel))
theorem ev_isInt {z : Int} (ha : Ev W M ta σ H z) : Ev W M (tCB (rIsi W.K) (tCons ta (tCons (tC (.ty "int")) tNil))) σ H true := ev_isi ha (fun _ _ r => ty_int r) (.ty "int") (kit_ty (by decide +kernel))
theorem ev_notBool {z : Int} (ha : Ev W M ta σ H z) : Ev W M (tCB (rIsi W.K) (tCons ta (tCons (tC (.ty "bool")) tNil))) σ H false := ev_isi ha (fun _ _ r => ty_int r) (.ty "bool") (kit_ty (by decide +kernel))
/-! ### dicts are made -/
theorem keys_kq : ∀ {vs : List V} {ks : List TupK}, Paired (Rep W M H) vs ks → ∃ kqs : Kq, vs = kqs.map (fun p => V.ref p.2) ∧ kqs.map (·.1) = ks.map (fun k => k.l.map Sum.inr) ∧ ∀ p ∈ kqs, H p.2 = some (.tup (p.1.map kV))
  | _, _, .nil => ⟨[], rfl, rfl, fun p hp => by cases hp⟩
  | _, _, .cons r t => by
    obtain ⟨kqs, e1, e2, e3⟩ := keys_kq t
    obtain ⟨a, rfl, hh, _⟩ := r.tupK
    refine ⟨(_, a) :: kqs, by rw [e1]; rfl, by rw [List.map_cons, List.map_cons, e2], fun p hp => ?_⟩
    rcases List.mem_cons.mp hp with rfl | hp
    · show H a = some (.tup (List.map kV (List.map Sum.inr _)))
      rw [← map_kV]; exact hh
    · exact e3 p hp
theorem nodup_inr {ks : List TupK} (h : ks.Nodup) : (ks.map fun k => (k.l.map Sum.inr : List L2.Key)).Nodup := by
  induction ks with
  | nil => exact List.nodup_nil
  | cons k t ih =>
    obtain ⟨h1, h2⟩ := List.nodup_cons.mp h
    rw [List.map_cons]
    refine List.nodup_cons.mpr ⟨fun hm => ?_, ih h2⟩
    obtain ⟨y, hy, e⟩ := List.mem_map.mp hm
    have : y.l = k.l := map_inr_inj e
    have : y = k := by cases y; cases k; simp_all
    exact h1 (this ▸ hy)
theorem enc_zip : ∀ (ks : List TupK) (ns : List Int), (ks.map fun k => (k.l.map Sum.inr : List L2.Key)).zip (ns.map V.int) = encD ((ks.map TupK.l).zip ns)
  | [], _ => rfl
  | _ :: _, [] => rfl
  | k :: ks, n :: ns => by
    rw [List.map_cons, List.map_cons, List.zip_cons_cons, enc_zip ks ns]; rfl
theorem rep_di {p : Addr} {l : List (List Str × Int)} (h : H p = some (.dT (encD l))) (hb : p ≠ W.b) (hm : p ∉ M) : Rep W M H (.ref p) (Di.mk l) := ⟨p, rfl, cut_some.mpr ⟨hb, hm, h⟩⟩
/-- dict(zip(ks, ns)) -/
theorem ev_dzip {ks : Tup TupK} {ns : Sq Int} (ha : Ev W M ta σ H ks) (hb : Ev W M tb σ H ns) (hl : ks.l.length = ns.l.length) (hn : ks.l.Nodup) : Ev W M (tDictZip W.K (tCons ta (tCons tb tNil))) σ H (Di.mk ((ks.l.map TupK.l).zip ns.l)) := fun H1 e ok Q q =>
  ha H1 e ok _ fun v H2 e2 r => hb H2 (e.trans e2) (ok.ex e2) _ fun u H3 e3 r3 => by
    obtain ⟨a, vs, rfl, hh, _, _, pp⟩ := (r.up e3).tup
    obtain ⟨kqs, e1, e4, e5⟩ := keys_kq pp
    have ok3 := (ok.ex e2).ex e3
    have hlk : kqs.length = ks.l.length := by have := congrArg List.length e4; simpa using this
    have fin : ∀ b us, u = .ref b → Paired (Rep W M H3) us ns.l → (SqL W.K H3 b us ∨ SqT W.K H3 b us) → tDictZip W.K (tCons (fun _ H Q => Q (.ref a) H) (tCons (fun _ H Q => Q u H) tNil)) σ H3 Q := fun b us eb pu hs => by
      subst eb
      refine ⟨a, b, kqs, us, rfl, by rw [← e1]; exact .inl hh, hs, e5, by rw [Pd.length pu, hlk, hl], by rw [e4]; exact nodup_inr hn, fun p hp => ?_⟩
      rw [e4, paired_toV pu]
      show Q (.ref p) (upd H3 p (.dT ((ks.l.map fun k => (k.l.map Sum.inr : List L2.Key)).zip (ns.l.map V.int))))
      rw [enc_zip]
      exact q _ _ ((e2.trans e3).trans (Ex.new hp)) (rep_di upd_same (ok3.new_b hp) (ok3.new_M hp))
    rcases r3.sq with r3 | r3
    · obtain ⟨b, us, eb, hb, _, _, pu⟩ := r3.lst
      exact fin b us eb pu (.inl (SqL.of hb))
    · obtain ⟨b, us, eb, hb, _, _, pu⟩ := r3.tup
      exact fin b us eb pu (.inr (.inl hb))
theorem pairs_kq : ∀ {vs : List V} {ps : List (TupK × Int)}, Paired (Rep W M H) vs ps → ∃ (ts : List Addr) (kqs : Kq), vs = ts.map V.ref ∧ kqs.map (·.1) = ps.map (fun p => p.1.l.map Sum.inr) ∧ (∀ p ∈ kqs, H p.2 = some (.tup (p.1.map kV))) ∧
    ∀ K, Paired (fun t (p : (List L2.Key × Addr) × V) => SqT K H t [.ref p.1.2, p.2]) ts (kqs.zip (ps.map fun p => V.int p.2))
  | _, _, .nil => ⟨[], [], rfl, rfl, fun p hp => (by cases hp), fun _ => .nil⟩
  | _, _, .cons r t => by
    obtain ⟨ts, kqs, e1, e2, e3, e4⟩ := pairs_kq t
    obtain ⟨T, v1, v2, rfl, hT, _, _, r1, r2⟩ := r.pair
    obtain ⟨a, rfl, hh, _⟩ := r1.tupK
    cases (show v2 = .int _ from r2)
    refine ⟨T :: ts, (_, a) :: kqs, by rw [e1]; rfl, by rw [List.map_cons, List.map_cons, e2], fun p hp => ?_, fun K => .cons (.inl hT) (e4 K)⟩
    rcases List.mem_cons.mp hp with rfl | hp
    · show H a = some (.tup (List.map kV (List.map Sum.inr _)))
      rw [← map_kV]; exact hh
    · exact e3 p hp
theorem enc_pairs : ∀ ps : List (TupK × Int), (ps.map fun p => (p.1.l.map Sum.inr : List L2.Key)).zip (ps.map fun p => V.int p.2) = encD (ps.map fun p => (p.1.l, p.2))
  | [] => rfl
  | p :: t => by
    rw [List.map_cons, List.map_cons, List.map_cons, List.zip_cons_cons, enc_pairs t]; rfl
/-- dict([(k, n), ..]) -/
theorem ev_dpairs {ps : List (TupK × Int)} (ha : Ev W M ta σ H ps) (hn : (ps.map (·.1)).Nodup) : Ev W M (tCB (rDictPairs W.K) (tCons ta tNil)) σ H (Di.mk (ps.map fun p => (p.1.l, p.2))) := fun H1 e ok Q q =>
  ha H1 e ok _ fun v H2 e2 r => by
    obtain ⟨a, vs, rfl, hh, _, _, pp⟩ := r.lst
    obtain ⟨ts, kqs, e1, e3, e4, e5⟩ := pairs_kq pp
    have ok2 := ok.ex e2
    have hlk : kqs.length = ps.length := by have := congrArg List.length e3; simpa using this
    refine ⟨a, ts, kqs, ps.map fun p => V.int p.2, rfl, SqL.of (by rw [hh, e1]), e5 _, e4, by rw [List.length_map, hlk], ?_, fun p hp => ?_⟩
    · have := nodup_inr hn
      rw [List.map_map] at this
      rw [e3]; exact this
    · have ez : (kqs.map (·.1)).zip (ps.map fun p => V.int p.2) = encD (ps.map fun p => (p.1.l, p.2)) := by rw [e3]; exact enc_pairs ps
      rw [ez]
      exact q _ _ (e2.trans (Ex.new hp)) (rep_di upd_same (ok2.new_b hp) (ok2.new_M hp))
/-! ### list(d) -/
def rListDT : List V → Hp → VK → Prop := fun xs H Q => ∃ d kvs, xs = [V.ref d] ∧ Rd H d (.dT kvs) ∧ ∀ p bs, H p = none → IsKeys H kvs bs → Q (.ref p) (upd H p (.lst (bs.map V.ref)))
theorem cListDT {X : Cx} (hc : X.calm = true) : CallR X (.type "list") rListDT := call_list_dT hc
theorem bag_nb (ok : Ok W M H) {q : Addr} {xs : List V} (h : H q = some (.tup xs)) : q ≠ W.b := fun e => by
  obtain ⟨_, _, _, _, z, _⟩ := ok.bag
  rw [← e, h] at z; cases z
theorem isKeys_rep (ok : Ok W [] H) : ∀ {l : List (List Str × Int)} {bs : List Addr}, IsKeys H (encD l) bs → Paired (Rep W [] H) (bs.map V.ref) (l.map fun p => TupK.mk p.1)
  | [], _, h => by cases h; exact .nil
  | p :: t, _, .cons (b := b) r rs => by
    have hb : H b = some (.tup (p.1.map V.str)) := by rw [map_kV]; exact r
    exact .cons (rep_tupK hb (bag_nb ok hb) (by simp)) (isKeys_rep ok rs)
theorem ev_listD (ha : Ev W [] ta σ H x) : Ev W [] (tCB rListDT (tCons ta tNil)) σ H (x.kvs.map fun p => TupK.mk p.1) := fun H1 e ok Q q =>
  ha H1 e ok _ fun v H2 e2 r => by
    obtain ⟨a, rfl, hh, _⟩ := r.di
    have ok2 := ok.ex e2
    exact ⟨a, _, rfl, .inl hh, fun p bs hp hk => q _ _ (e2.trans (Ex.new hp)) (rep_lst upd_same (ok2.new_b hp) (ok2.new_M hp) (Pd.mono (isKeys_rep ok2 hk) fun _ _ r => r.up (Ex.new hp)))⟩
/-! ### d.clear() -/
def rClearT : V → List V → Hp → VK → Prop := fun x xs H Q => ∃ a kvs, x = .ref a ∧ xs = [] ∧ H a = some (.dT kvs) ∧ Q .non (upd H a (.dT []))
theorem mt_clearT {X : Cx} : MtR X "dict.clear" rClearT := by
  intro pins s σ H x vs v us Q I rx rv h
  obtain ⟨a, kvs, rfl, rfl, hd, q⟩ := h
  cases rx
  cases rv
  obtain ⟨z, hs, xs, pr, hm⟩ := dt_of I.hok hd
  refine PySem.clear_keyed (knd := tupleKind (mixKind X.prog X.w)) ⟨xs, hm, rfl⟩ (fun h' hm' hsb => ?_) (by
    have l2 : kvs.length = xs.length := Paired.length pr
    rw [pairsH_length, ← l2]; exact z)
  obtain ⟨ys, hy, ey⟩ := hm'
  obtain ⟨o, es, ep, r1, r2, r3, r4, r5, r6⟩ := hy
  have hy0 : ys = [] := List.eq_nil_of_length_eq_zero (by have := congrArg List.length ey; rw [pairsH_length] at this; simpa using this)
  subst hy0
  exact ⟨.non, _, d_write I (by rw [hd]; trivial) hsb ⟨o, r1⟩ (show ObjOk X.prog X.w _ _ _ (.dT []) from ⟨Nat.zero_le _, hs, [], .nil, o, es, ep, r1, r2, r3, r4, List.nodup_nil⟩), rfl, q⟩
/-! ### (s, ns) < (t, ms) -/
def ltI (ns ms : List Int) : Bool := Ob.lexAt (fun j => decide (ns.getD j 0 = ms.getD j 0)) (fun j => decide (ns.getD j 0 < ms.getD j 0)) (decide (ns.length < ms.length)) 0 (min ns.length ms.length)
def ltK (x y : Int × Tup Int) : Bool := if x.1 = y.1 then (if x.2.l = y.2.l then false else ltI x.2.l y.2.l) else decide (x.1 < y.1)
def rLtK (K : PySem.W.Frag) : R2 := fun x y H Q => ∃ (a b p q : Addr) (m n : Int) (ms ns : List Int), x = .ref a ∧ y = .ref b ∧ SqT K H a [.int m, .ref p] ∧ SqT K H b [.int n, .ref q] ∧ SqT K H p (ms.map V.int) ∧ SqT K H q (ns.map V.int) ∧ Q (.bl (ltK (m, ⟨ms⟩) (n, ⟨ns⟩))) H
theorem map_int_dat {K : PySem.W.Frag} {H : Hp} : ∀ l : List Int, DpAll K H (l.map V.int) (l.map PyData.int)
  | [] => .nil
  | _ :: t => .cons (.int _) (map_int_dat t)
theorem op_ltK {X : Cx} (hu : X.A.units + 65 < cLine) : OpR X (compareOp .Lt) (rLtK X.K) := by
  intro pins s σ H x y v u Q I rx ry h
  obtain ⟨a, b, p, q, m, n, ms, ns, rfl, rfl, ha, hb, hp, hq, k⟩ := h
  cases rx
  cases ry
  obtain ⟨i1, r1, p1, _⟩ := I.tuple ha
  obtain ⟨i2, r2, p2, _⟩ := I.tuple hb
  obtain ⟨m', pv, rfl, rm, rp⟩ := vals2 r1
  obtain ⟨n', qv, rfl, rn, rq⟩ := vals2 r2
  obtain ⟨tm, rfl⟩ : ∃ t, m' = Value.int m t := rm
  obtain ⟨tn, rfl⟩ : ∃ t, n' = Value.int n t := rn
  cases (show pv = Value.ref p from rp)
  cases (show qv = Value.ref q from rq)
  obtain ⟨js, rj, pj, _⟩ := I.tuple hp
  obtain ⟨ks, rk, pk, _⟩ := I.tuple hq
  have ij : IntsAre js ms := Vals.ints rj
  have ik : IntsAre ks ns := Vals.ints rk
  have ej : js.toArray.size = ms.length := by rw [List.size_toArray]; exact ij.length
  have ek : ks.toArray.size = ns.length := by rw [List.size_toArray]; exact ik.length
  have at1 : ∀ j (h1 : j < js.toArray.size), ∃ t, js.toArray[j] = .int (ms.getD j 0) t := fun j h1 => PyProof.Rows.IntsAre.int_at ij _ _ (by simp at h1; simp [h1])
  have at2 : ∀ j (h1 : j < ks.toArray.size), ∃ t, ks.toArray[j] = .int (ns.getD j 0) t := fun j h1 => PyProof.Rows.IntsAre.int_at ik _ _ (by simp at h1; simp [h1])
  have u1 : X.A.in1.units = X.A.units + 1 := rfl
  have eqi : ∀ (A : Around) (i j : Int) (t t' : Tok), SeqAt.EqAt A s (.int i t) (.int j t') (decide (i = j)) := fun A i j t t' => by
    have z : (i == j) = decide (i = j) := by
      by_cases w : i = j
      · rw [decide_eq_true w]; exact beq_iff_eq.mpr w
      · rw [decide_eq_false w]; exact beq_eq_false_iff_ne.mpr w
    rw [← z]; exact SeqAt.EqAt.int_int _ _ _ _
  have inner := Ob.RcOp.tuples_lt (A := X.A.in1) (s := s) (e := fun j => decide (ms.getD j 0 = ns.getD j 0)) (r := fun j => decide (ms.getD j 0 < ns.getD j 0)) pj pk (by omega) (fun j h1 h2 => by
    obtain ⟨t, et⟩ := at1 j h1
    obtain ⟨t', et'⟩ := at2 j h2
    rw [et, et']; exact eqi _ _ _ _ _) (fun j h1 h2 _ => by
    obtain ⟨t, et⟩ := at1 j h1
    obtain ⟨t', et'⟩ := at2 j h2
    rw [et, et']; exact Ob.RcOp.lt_int _ _ _ _)
  rw [ej, ek] at inner
  have etup := eqE I (.tuple (ms.map PyData.int)) (.tuple (ns.map PyData.int)) X.A.in1 (.ref p) (.ref q) (.ref p) (.ref q) (.tup hp (map_int_dat ms)) (.tup hq (map_int_dat ns)) rfl rfl (by
    have := PyD.depth (Tup.mk ms)
    have h1 : (PyData.tuple (ms.map PyData.int)).depth ≤ 1 := this
    omega)
  have eqt : PyData.eqv (.tuple (ms.map PyData.int)) (.tuple (ns.map PyData.int)) = decide (ms = ns) := by
    have z := eqv_dat (x := Tup.mk ms) (y := Tup.mk ns)
    have z2 : decide (Tup.mk ms = Tup.mk ns) = decide (ms = ns) := by simp
    rw [z2] at z; exact z
  rw [eqt] at etup
  have R := Ob.RcOp.tuples_lt (A := X.A) (s := s) (e := fun j => if j = 0 then decide (m = n) else decide (ms = ns)) (r := fun j => if j = 0 then decide (m < n) else ltI ms ns) p1 p2 (by omega) (fun j h1 h2 => by
    match j, h1, h2 with
    | 0, _, _ => exact eqi _ _ _ _ _
    | 1, _, _ => exact etup
    | j + 2, h1, _ => simp at h1; omega) (fun j h1 h2 _ => by
    match j, h1, h2 with
    | 0, _, _ => exact Ob.RcOp.lt_int _ _ _ _
    | 1, _, _ => exact inner
    | j + 2, h1, _ => simp at h1; omega)
  have eb : Ob.lexAt (fun j => if j = 0 then decide (m = n) else decide (ms = ns)) (fun j => if j = 0 then decide (m < n) else ltI ms ns) (decide ((#[Value.int m tm, Value.ref p] : Array Value).size < (#[Value.int n tn, Value.ref q] : Array Value).size)) 0 (min (#[Value.int m tm, Value.ref p] : Array Value).size (#[Value.int n tn, Value.ref q] : Array Value).size) = ltK (m, ⟨ms⟩) (n, ⟨ns⟩) := by
    show Ob.lexAt _ _ _ 0 2 = _
    unfold ltK
    simp only [Ob.lexAt]
    by_cases c1 : m = n
    · by_cases c2 : ms = ns
      · simp [c1, c2]
      · simp [c1, c2]
    · simp [c1]
  have R' := R X.prog X.w X.xe (EP X pins σ Q)
  have eb' := eb
  exact R' (by
    show EP X pins σ Q (.bool (Ob.lexAt _ _ (decide ((#[Value.int m tm, Value.ref p] : Array Value).size < (#[Value.int n tn, Value.ref q] : Array Value).size)) 0 (min (#[Value.int m tm, Value.ref p] : Array Value).size (#[Value.int n tn, Value.ref q] : Array Value).size))) s
    rw [eb']; exact ⟨.bl _, H, I, rfl, k⟩)
theorem ev_ltK {x y : Int × Tup Int} (ha : Ev W M ta σ H x) (hb : Ev W M tb σ H y) : Ev W M (tOp (rLtK W.K) ta tb) σ H (ltK x y) := fun H1 e ok Q q =>
  ha H1 e ok _ fun v H2 e2 r => hb H2 (e.trans e2) (ok.ex e2) _ fun u H3 e3 r3 => by
    obtain ⟨a, v1, v2, rfl, hh, _, _, r1, r2⟩ := (r.up e3).pair
    obtain ⟨b, u1, u2, rfl, hh', _, _, s1, s2⟩ := r3.pair
    obtain ⟨p, ws, rfl, hp, _, _, pp⟩ := r2.tup
    obtain ⟨p', ws', rfl, hp', _, _, pp'⟩ := s2.tup
    cases (show v1 = .int _ from r1)
    cases (show u1 = .int _ from s1)
    refine ⟨a, b, p, p', x.1, y.1, x.2.l, y.2.l, rfl, rfl, .inl hh, .inl hh', .inl (by rw [paired_toV pp] at hp; exact hp), .inl (by rw [paired_toV pp'] at hp'; exact hp'), q _ H3 (e2.trans e3) rep_bl⟩
/-! ### int(figures) -/
def numS (n : Nat) : Str := Str.ofString (toString ((n : Nat) : Int))
def rIntS : List V → Hp → VK → Prop := fun xs H Q => ∃ a n, xs = [.str a] ∧ PySem.intText? a = some n ∧ a.length ≤ 640 ∧ Q (.int n) H
theorem cIntS {X : Cx} : CallR X (.type "int") rIntS := call_int_str
theorem numS_len {n : Nat} (h : n < 10 ^ 30) : (numS n).length ≤ 30 := by
  unfold numS
  rw [len_tl, tl_num]
  exact numL_len (by decide) h
theorem ev_intS {n : Nat} (ha : Ev W M ta σ H (numS n)) (hn : n < 10 ^ 30) : Ev W M (tCB rIntS (tCons ta tNil)) σ H (n : Int) := fun H1 e ok Q q =>
  ha H1 e ok _ fun v H2 e2 r => ⟨numS n, n, by rw [show v = .str (numS n) from r], int_num (Nat.le_trans (numL_len (by decide) hn) (by decide)), Nat.le_trans (numS_len hn) (by decide), q _ H2 e2 rep_int⟩
/-! ### a loop over a locked dict -/
structure Lk (W : Wd) (M : List Addr) (H H' : Hp) (d : Addr) (od : Obj) (l : List (List Str × Int)) : Prop where
  at_ : H' d = some (.frz od (.dT (encD l)))
  fr : ∀ a o, a ≠ W.b → a ≠ d → H a = some o → H' a = some o
  was : H d = some (.dT (encD l))
  nd : d ≠ W.b
  some_ : ∀ a, H a ≠ none → H' a ≠ none
  bag : BagAt W H → BagAt W H'
theorem Lk.rep {l : List (List Str × Int)} {d : Addr} {od : Obj} (h : Lk W M H H' d od l) {α : Type} [Py α] [Fyz α] {v : V} {y : α} (r : Rep W M H v y) : Rep W [] H' v y :=
  Fyz.fy (fun a o ha hf => by
    obtain ⟨h1, h2, h3⟩ := cut_some.mp ha
    refine cut_some.mpr ⟨h1, by simp, h.fr a o h1 (fun e => ?_) h3⟩
    rw [e, h.was] at h3
    cases h3
    exact hf.2 _ rfl) r
theorem Lk.sl {l : List (List Str × Int)} {d : Addr} {od : Obj} (h : Lk W M H H' d od l) {α : Type} [Py α] [Fyz α] {y : α} (r : Sl W M σ H i y) : Sl W [] σ H' i y := let ⟨v, hv, r⟩ := r; ⟨v, hv, h.rep r⟩
theorem Lk.up {l : List (List Str × Int)} {d : Addr} {od : Obj} {H2 : Hp} (h : Lk W M H H' d od l) (e : Ex W [] H' H2) : Lk W M H H2 d od l :=
  ⟨e.keep _ _ h.nd (by simp) h.at_, fun a o n m q => e.keep _ _ n (by simp) (h.fr a o n m q), h.was, h.nd, fun a q => e.some_ a (h.some_ a q), fun z => e.bag (h.bag z)⟩
theorem Lk.off {l : List (List Str × Int)} {d : Addr} {od : Obj} (h : Lk W M H H' d od l) (ok : Ok W M H) : Ex W [] H (upd H' d (.dT (encD l))) := by
  have nbl : d ≠ W.bl := fun e => by
    obtain ⟨_, _, _, _, _, _, z, _⟩ := ok.bag
    rw [← e, h.was] at z; cases z
  refine ⟨fun a o n _ q => ?_, fun a q => ?_, fun z => bag_upd (h.bag z) h.nd nbl⟩
  · by_cases c : a = d
    · rw [c, upd_same]; rw [c, h.was] at q; exact q
    · rw [upd_ne c]; exact h.fr a o n c q
  · by_cases c : a = d
    · rw [c, upd_same]; exact fun z => nomatch z
    · rw [upd_ne c]; exact h.some_ a q
theorem Lk.start {l : List (List Str × Int)} {d : Addr} {od : Obj} (ok : Ok W M H) (h : H d = some (.dT (encD l))) (nd : d ≠ W.b) : Lk W M H (upd H d (.frz od (.dT (encD l)))) d od l := by
  have nbl : d ≠ W.bl := fun e => by
    obtain ⟨_, _, _, _, _, _, z, _⟩ := ok.bag
    rw [← e, h] at z; cases z
  refine ⟨upd_same, fun a o n m q => by rw [upd_ne m]; exact q, h, nd, fun a q => ?_, fun z => bag_upd z nd nbl⟩
  by_cases c : a = d
  · rw [c, upd_same]; exact fun z => nomatch z
  · rw [upd_ne c]; exact q
theorem Lk.ok {l : List (List Str × Int)} {d : Addr} {od : Obj} (h : Lk W M H H' d od l) (ok : Ok W M H) : Ok W [] H' := ⟨h.bag ok.bag, fun a ha => by cases ha⟩
theorem Lk.key {l : List (List Str × Int)} {d : Addr} {od : Obj} (h : Lk W M H H' d od l) (ok : Ok W M H) {j : Nat} {k : List L2.Key} {w : V} {q : Addr} (e : (encD l)[j]? = some (k, w)) (hq : H' q = some (.tup (k.map kV))) : ∃ p, l[j]? = some p ∧ Rep W [] H' (.ref q) (TupK.mk p.1) := by
  unfold encD at e
  rw [List.getElem?_map] at e
  cases hp : l[j]? with
  | none => rw [hp] at e; cases e
  | some p =>
    rw [hp] at e
    cases e
    refine ⟨p, rfl, rep_tupK (by rw [hq, map_kV]) ?_ (by simp)⟩
    exact bag_nb (h.ok ok) hq
/-- d[k] of the locked dict -/
theorem Lk.get {l : List (List Str × Int)} {d : Addr} {od : Obj} {H0 : Hp} {key : TupK} {n : Int} (h : Lk W M H0 H d od l) (hs : σ[i]? = some (some (.ref d))) (hk : Ev W [] tb σ H key) (hn : l.lookup key.l = some n) : Ev W [] (tDGet (tVar i) tb) σ H n := fun H1 e ok Q q =>
  ⟨.ref d, hs, hk H1 e ok _ fun u H2 e2 r2 => by
    obtain ⟨b, rfl, hb, _⟩ := r2.tupK
    have ha := ((h.up e).up e2).at_
    exact ⟨d, .int n, rfl, .inr ⟨_, key.l.map Sum.inr, b, .inr ⟨od, ha⟩, rfl, by rw [hb, map_kV], by rw [valV_enc, hn]; rfl⟩, q _ H2 e2 rep_int⟩⟩
/-- for k in d: if t: .. (which is never so) -/
theorem s_forK {tt : TT} {t1 : TS} (ok : Ok W M H) (hs : Sl W M σ H i x) (nik : i ≠ k) (hkl : k < σ.length)
    (he : ∀ d od (p : List Str × Int) v σ' H', p ∈ x.kvs → Lk W M H H' d od x.kvs → Ok W [] H' → Rep W [] H' v (TupK.mk p.1) → (σ' = σ ∨ ∃ o, σ' = σ.set k o) → Et W [] tt (σ'.set k (some v)) H' false)
    (q : ∀ σ' H', (σ' = σ ∨ ∃ o, σ' = σ.set k o) → Ex W [] H H' → Ok W M H' → D.nx σ' H') : tLock (tFor (iKeys (tVar i)) (gName k) (tIfS tt t1 tNext)) D σ H := by
  obtain ⟨v, hv, r⟩ := hs
  obtain ⟨d, rfl, hd, nb, nm⟩ := r.di
  refine ⟨d, _, hd, trivial, fun od => ⟨.ref d, hv, d, od, rfl, .inr ⟨_, upd_same, ?_⟩⟩⟩
  have out : ∀ {σ' : L2.St} {H' : Hp}, (σ' = σ ∨ ∃ o, σ' = σ.set k o) → Lk W M H H' d od x.kvs → H' d = some (.frz od (.dT (encD x.kvs))) ∧ D.nx σ' (upd H' d (.dT (encD x.kvs))) := fun hσ lk => ⟨lk.at_, q _ _ hσ (lk.off ok) (ok.ex (lk.off ok))⟩
  refine ⟨fun j m σ' H' => m = (encD x.kvs).length - j ∧ j ≤ (encD x.kvs).length ∧ (σ' = σ ∨ ∃ o, σ' = σ.set k o) ∧ Lk W M H H' d od x.kvs, ⟨_, rfl, Nat.zero_le _, .inl rfl, Lk.start ok hd nb⟩, ?_⟩
  rintro j m σ' H' ⟨rfl, hj, hσ, lk⟩
  by_cases hlt : j < (encD x.kvs).length
  · refine .inr ⟨⟨lk.at_, hlt⟩, fun σ3 H3 => (σ3 = σ ∨ ∃ o, σ3 = σ.set k o) ∧ Lk W M H H3 d od x.kvs, fun σ3 H3 z => ⟨(encD x.kvs).length - (j + 1), by omega, rfl, hlt, z⟩, ?_⟩
    rintro v H2 ⟨rfl, kk, w, qa, hkw, rfl, hqa⟩
    obtain ⟨p, hp, rp⟩ := lk.key ok hkw hqa
    refine he d od p (.ref qa) σ' H2 (List.mem_of_getElem? hp) lk (lk.ok ok) rp hσ H2 Ex.refl (lk.ok ok) _ fun H3 e3 => ?_
    rw [if_neg Bool.false_ne_true]
    refine ⟨.inr ⟨some (.ref qa), ?_⟩, lk.up e3⟩
    rcases hσ with rfl | ⟨o, rfl⟩
    · rfl
    · rw [List.set_set]
  · exact .inl ⟨⟨lk.at_, by omega⟩, out hσ lk⟩
/-- [f for k in d] -/
theorem ev_lcK {f : List Str × Int → Bool} {vs : List Nat} (hs : Sl W M σ H i x) (hi : i ∉ vs) (hl : x.kvs.length ≤ 1000) (hk : k ∈ vs)
    (he : ∀ d od (p : List Str × Int) v H1 H', p ∈ x.kvs → Ex W [] H H1 → Ok W M H1 → σ[i]? = some (some (.ref d)) → Lk W M H1 H' d od x.kvs → Ok W [] H' → Rep W [] H' v (TupK.mk p.1) → Ev W [] te ((L2.wipe σ vs).set k (some v)) H' (f p)) :
    Ev W M (tLockE (tLc (iKeys (tVar i)) (gName k) tYes te vs)) σ H (x.kvs.map f) := fun H1 e1 ok1 Q q => by
  obtain ⟨v, hv, r⟩ := hs.up e1
  obtain ⟨d, rfl, hd, nb, nm⟩ := r.di
  refine ⟨d, _, hd, trivial, fun od => ⟨.ref d, hv, d, od, rfl, .inr ⟨_, upd_same, fun L hL => ?_⟩⟩⟩
  have hln : (encD x.kvs).length = x.kvs.length := by unfold encD; rw [List.length_map]
  have lk0 := Lk.start (od := od) ok1 hd nb
  have hLd : L ≠ d := fun e => by rw [e, upd_same] at hL; cases hL
  have hL1 : H1 L = none := by rw [upd_ne hLd] at hL; exact hL
  have nLb := ok1.new_b hL1
  have nLbl := ok1.new_bl hL1
  -- what holds at a turn
  have wr : ∀ {H' : Hp} (o : HO), Lk W M H1 H' d od x.kvs → Lk W M H1 (upd H' L o) d od x.kvs := fun {H'} o lk => by
    refine ⟨by rw [upd_ne hLd.symm]; exact lk.at_, fun a u n m z => ?_, lk.was, lk.nd, fun a z => ?_, fun z => bag_upd (lk.bag z) nLb nLbl⟩
    · rw [upd_ne (fun e => by rw [e, hL1] at z; cases z)]; exact lk.fr a u n m z
    · by_cases c : a = L
      · rw [c, upd_same]; exact fun z => nomatch z
      · rw [upd_ne c]; exact lk.some_ a z
  refine ⟨fun j m H' => m = x.kvs.length - j ∧ j ≤ x.kvs.length ∧ Lk W M H1 H' d od x.kvs ∧ H' L = some (.lst (((x.kvs.take j).map f).map V.bl)), ⟨_, rfl, Nat.zero_le _, wr _ lk0, upd_same⟩, ?_⟩
  rintro j m H' ⟨rfl, hj, lk, hL'⟩
  by_cases hlt : j < x.kvs.length
  · refine .inr ⟨⟨lk.at_, by rw [hln]; exact hlt⟩, fun H3 => Lk W M H1 H3 d od x.kvs ∧ H3 L = some (.lst (((x.kvs.take (j + 1)).map f).map V.bl)), fun H3 z => ⟨x.kvs.length - (j + 1), by omega, rfl, hlt, z⟩, ?_⟩
    rintro v H2 ⟨rfl, kk, w, qa, hkw, rfl, hqa⟩
    obtain ⟨p, hp, rp⟩ := lk.key ok1 hkw hqa
    refine ⟨by rw [wipe_set hk, wipe_wipe], ?_⟩
    show te _ _ _
    refine he d od p (.ref qa) H1 H2 (List.mem_of_getElem? hp) e1 ok1 hv lk (lk.ok ok1) rp H2 Ex.refl (lk.ok ok1) _ fun u H3 e3 r3 => ?_
    cases (show u = .bl _ from r3)
    have lk3 := lk.up e3
    refine ⟨_, e3.keep _ _ nLb (by simp) hL', sl (by rw [List.length_map, List.length_map, List.length_take]; omega), wr _ lk3, ?_⟩
    rw [upd_same, List.take_add_one, hp]
    simp
  · have ej : j = x.kvs.length := by omega
    rw [ej, List.take_length] at hL'
    refine .inl ⟨⟨lk.at_, by rw [hln]; omega⟩, lk.at_, q _ _ (lk.off ok1) (rep_lst (by rw [upd_ne hLd]; exact hL') nLb (ok1.new_M hL1) (toV_paired (α := Bool)))⟩
end
end RG
/-! ### lists are equal, place by place, within one model -/
namespace PySem.SeqAt
open AutoSeq1 (wpAny_loadPart')
open MeetsSeq MeetsSeq2 MeetsSeq3 SeqRoads2
section
variable {prog : Program} {w : World}
theorem rg_turn {l b : Addr} {xs ys : Array Value} {n n2 : Nat} {dd dd2 : Option Addr} {sl sl2 : Array (Option Value)} (hz : xs.size = ys.size) : ∀ (k i : Nat), xs.size - i = k →
    MeetsIn prog w (Builtin.«list.__eq__.loop» ⟨[.ref l, .ref b, rawInt i, rawInt 3], []⟩) (fun A R s => (s.heap.get? l = some { cls := .type "list", dict := dd, data := .seq xs n, slots := sl } ∧ s.heap.get? b = some { cls := .type "list", dict := dd2, data := .seq ys n2, slots := sl2 }) ∧
      (∀ j (h1 : j < xs.size) (h2 : j < ys.size), EqP prog w A.in1 s xs[j] ys[j] true) ∧ R (.ok (.ret (.bool false))) s)
  | 0, i, hk => by
    intro A R s h
    obtain ⟨hp, g, d, tk, os⟩ := s
    obtain ⟨⟨hl, hb⟩, he, h⟩ := h
    wp_walk using wpAny_loadPart' hl, wpAny_loadPart' hb
    rw [show xs[((i : Nat) : Int).toNat]? = none by simp; omega, show ys[((i : Nat) : Int).toNat]? = none by simp; omega]
    wp_walk using wpAny_loadPart' hl, wpAny_loadPart' hb
    show R (.ok (.ret (.bool (xs.size != ys.size)))) _
    rw [hz]
    simpa using h
  | k + 1, i, hk => by
    intro A R s h
    obtain ⟨hp, g, d, tk, os⟩ := s
    obtain ⟨⟨hl, hb⟩, he, h⟩ := h
    have c1 : i < xs.size := by omega
    have c2 : i < ys.size := by omega
    wp_walk using wpAny_loadPart' hl, wpAny_loadPart' hb
    rw [show xs[((i : Nat) : Int).toNat]? = some xs[i] by simp [c1], show ys[((i : Nat) : Int).toNat]? = some ys[i] by simp [c2]]
    refine wpAny_bind (he i c1 c2 _ _ ?_)
    wp_walk
    rw [show ((i : Int) + 1) = ((i + 1 : Nat) : Int) by push_cast; rfl]
    refine ⟨plainId_quiet plain_eq_loop _, codeAny_builtin entry_eq_loop ?_⟩
    rw [Around.under_plainId plain_eq_loop _]
    exact rg_turn hz k (i + 1) (by omega) A R _ ⟨⟨hl, hb⟩, he, h⟩
theorem rg_neIn {l b : Addr} {xs ys : Array Value} {n n2 : Nat} {dd dd2 : Option Addr} {sl sl2 : Array (Option Value)} (hz : xs.size = ys.size) :
    MeetsIn prog w (Builtin.«list.__ne__» ⟨[.ref l, .ref b], []⟩) (fun A R s => (s.heap.get? l = some { cls := .type "list", dict := dd, data := .seq xs n, slots := sl } ∧ s.heap.get? b = some { cls := .type "list", dict := dd2, data := .seq ys n2, slots := sl2 }) ∧
      (∀ j (h1 : j < xs.size) (h2 : j < ys.size), EqP prog w A.in1 s xs[j] ys[j] true) ∧ R (.ok (.ret (.bool false))) s) := by
  intro A R s h
  obtain ⟨hp, g, d, tk, os⟩ := s
  obtain ⟨⟨hl, hb⟩, he, h⟩ := h
  have f3 := AutoSeq1.sub_list_list
  have no : ¬ (xs.size != ys.size) = true := by simp [hz]
  wp_walk using wpAny_loadPart' hl, wpAny_loadPart' hb
  refine ⟨plainId_quiet plain_eq_loop _, codeAny_builtin entry_eq_loop ?_⟩
  rw [Around.under_plainId plain_eq_loop _]
  exact rg_turn hz _ 0 rfl A R _ ⟨⟨hl, hb⟩, he, h⟩
theorem rg_ne {A : Around} {s : Shared} {l b : Addr} {xs ys : Array Value} (hl : s.heap.IsList l xs) (hb : s.heap.IsList b ys) (hz : xs.size = ys.size) (hu : A.units < cLine)
    (he : ∀ j (h1 : j < xs.size) (h2 : j < ys.size), EqP prog w A.in1 s xs[j] ys[j] true) (E Q : Value → Shared → Prop) (h : Q (.bool false) s) : wpAny (model prog w) A (richCompare .NotEq (.ref l) (.ref b)) Q E s := by
  obtain ⟨⟨c1, d1, t1, s1⟩, ho, hc, n, hd⟩ := id hl
  obtain ⟨⟨c2, d2, t2, s2⟩, ho2, hc2, n2, hd2⟩ := id hb
  simp only at hc hd hc2 hd2
  subst hc hd hc2 hd2
  have ty : s.TypeIs (.ref l) "list" := ⟨_, ho, rfl⟩
  exact wpAny_richCompare_same_room (op := .NotEq) ty ⟨_, ho2, rfl⟩ F.slot_list_ne (call_meetsIn F.slot_list_ne ty F.entry_list_ne (F.args_list_ne_2 _ _) (rg_neIn hz) ⟨⟨ho, ho2⟩, he, show Value.bool false ≠ Value.notImplemented ∧ Q (.bool false) s from ⟨(fun x => nomatch x), h⟩⟩) hu
end
end PySem.SeqAt
namespace RG
open PySem PySem.Spec PyProof.Rows L2 StX RZ TL
/-! ### dicts with tuple keys are equal -/
section
variable {prog : Program} {w : World} {K : Type} [DecidableEq K] {knd : HeapKind prog w K} {A : Around} {E : Value → Shared → Prop} {s : Shared} {a b : Addr} {xs ys : List (K × Addr × Value)}
theorem same_dicts {nm : String} {Q : Bool → Shared → Prop} (hu : knd.room A) (ha : (a == sysModules) = false) (hb : (b == sysModules) = false) (da : s.heap.DictOfH knd a xs) (db : s.heap.DictOfH knd b ys) (hl : xs.length = ys.length)
    (he : ∀ k p v, (k, p, v) ∈ xs → ∃ p' v', (k, p', v') ∈ ys ∧ SeqAt.EqP prog w A s v v' true) (h : Q true s) : wpAny (model prog w) A (Builtin.Dict.samePairs nm a b) Q E s := by
  obtain ⟨oa, ea, na, goa, xa, dta, ka, isa, nda⟩ := da
  obtain ⟨ob, eb, nb, gob, xb, dtb, kb, isb, ndb⟩ := db
  have za : ea.size = xs.length := size_of_entries ka
  have zb : eb.size = ys.length := size_of_entries kb
  unfold Builtin.Dict.samePairs Builtin.Dict.showsAll
  rw [if_neg (by rw [ha]; decide), if_neg (by rw [hb]; decide)]
  refine wpAny_bind (wpAny_pure (wpAny_bind (wpAny_pure (wpAny_bind (wpAny_dictEntries goa dta ?_)))))
  dsimp only
  refine wpAny_bind (wpAny_dictEntries gob dtb ?_)
  rw [if_neg (by rw [za, zb, hl]; simp)]
  refine wpAny_bind (wpAny_dictEpoch goa dta (wpAny_bind ?_))
  rw [Std.Legacy.Range.forIn_eq_forIn_range']
  simp only [Std.Legacy.Range.size, Nat.sub_zero, Nat.add_sub_cancel, Nat.div_one]
  refine wpAny_forIn_list _ (fun rest q s' => s' = s ∧ q = (none, ()) ∧ ∃ i, rest = List.range' i (xs.length - i) ∧ i ≤ xs.length) _ ?_ ?_ _ _ ⟨rfl, rfl, 0, by rw [za, Nat.sub_zero], Nat.zero_le _⟩
  · rintro x rest q s' ⟨rfl, rfl, i, hr, hi⟩
    have lt : i < xs.length := by
      by_cases c : i < xs.length
      · exact c
      · rw [Nat.sub_eq_zero_of_le (by omega)] at hr
        exact nomatch hr
    have hs : xs.length - i = (xs.length - (i + 1)) + 1 := by omega
    rw [hs, List.range'_succ] at hr
    injection hr with hx hr
    subst hx
    obtain ⟨⟨k, p, v⟩, hk⟩ : ∃ z, xs[x]? = some z := ⟨xs[x], List.getElem?_eq_getElem lt⟩
    obtain ⟨p', v', hm', hq⟩ := he k p v (List.mem_of_getElem? hk)
    have ent : ea[x]? = some (entryOfKey knd (k, p, v)) := by rw [entry_at ka x, hk]; rfl
    refine wpAny_bind (wpAny_dictEntries goa dta ?_)
    rw [ent]
    dsimp only
    obtain ⟨j, hj⟩ := List.mem_iff_getElem?.mp hm'
    refine wpAny_bind (wpAny_holding (wpAny_bind (wpAny_dictFind_heap hu (isa _ (List.mem_of_getElem? hk)) gob dtb kb isb ndb (fun no => absurd hj (no j (p', v'))) fun j2 pv hj2 => ?_)))
    obtain rfl : j2 = j := idxH_unique ndb hj2 hj
    rw [hj] at hj2
    refine wpAny_bind (wpAny_dictEntries gob dtb ?_)
    rw [entry_at kb j2, hj]
    refine wpAny_holding (hq _ _ ?_)
    show wpAny _ _ (if (!true) = true then _ else _) _ _ _
    rw [if_neg (by decide)]
    refine wpAny_bind (wpAny_dictEpoch goa dta ?_)
    rw [if_neg (by simp)]
    exact wpAny_pure ⟨rfl, rfl, x + 1, hr, lt⟩
  · rintro q s' ⟨rfl, rfl, _⟩
    exact wpAny_pure h
theorem dicts_eq (hu : knd.room A.in1) (hu2 : A.units < cLine) (ha : (a == sysModules) = false) (hb : (b == sysModules) = false) (da : s.heap.DictOfH knd a xs) (db : s.heap.DictOfH knd b ys) (hl : xs.length = ys.length)
    (he : ∀ k p v, (k, p, v) ∈ xs → ∃ p' v', (k, p', v') ∈ ys ∧ SeqAt.EqP prog w A.in1 s v v' true) (E Q : Value → Shared → Prop) (h : Q (.bool true) s) : wpAny (model prog w) A (richCompare .Eq (.ref a) (.ref b)) Q E s := by
  refine wpAny_richCompare_same_room (op := .Eq) da.typeIs db.typeIs PySem.F.slot_dict_eq (wpAny_call_entry PySem.F.slot_dict_eq da.typeIs PySem.F.entry_dict_eq ?_ (PySem.F.args_dict_eq_2 _ _)) hu2
  refine wpAny_bind (m := Builtin.Dict.dictSlotArgs "__eq__" ⟨[.ref a, .ref b], []⟩) ?_
  unfold Builtin.Dict.dictSlotArgs
  refine wpAny_bind (wpAny_notOrdered_dict da.typeIs (wpAny_pure (wpAny_bind (wpAny_isInstance (T := "dict") db.typeIs PySem.F.sub_dict_dict ?_))))
  simp only [Bool.not_true, Bool.false_eq_true, if_false]
  refine wpAny_bind (wpAny_pure (wpAny_bind (wpAny_pure (wpAny_bind (same_dicts hu ha hb da db hl he (wpAny_pure ⟨_, rfl, (fun x => nomatch x), ?_⟩))))))
  simpa using h
end
section
variable {X : Cx}
/-- [d, ns] != [d', ns'], which are the same -/
def rNeG (K : PySem.W.Frag) : R2 := fun x y H Q => ∃ (a b d d' p p' : Addr) (l l' : List (List Str × Int)) (ns : List Int), x = .ref a ∧ y = .ref b ∧ SqL K H a [.ref d, .ref p] ∧ SqL K H b [.ref d', .ref p'] ∧ H d = some (.dT (encD l)) ∧ H d' = some (.dT (encD l')) ∧
  SqL K H p (ns.map V.int) ∧ SqL K H p' (ns.map V.int) ∧ l.length = l'.length ∧ (∀ z ∈ l, z ∈ l') ∧ Q (.bl false) H
theorem kt_mem {H : Hp} {l : List (List Str × Int)} : ∀ {xs : List (List L2.Key × Addr × Value)}, KT H (encD l) xs → ∀ k p v, (k, p, v) ∈ xs → ∃ z ∈ l, k = z.1.map Sum.inr ∧ ∃ t, v = .int z.2 t := by
  induction l with
  | nil =>
    intro xs h k p v hm
    cases h
    cases hm
  | cons z t ih =>
    intro xs h k p v hm
    cases h with
    | cons r rs =>
      rcases List.mem_cons.mp hm with e | hm
      · obtain ⟨h1, h2, h3⟩ := r
        subst e
        exact ⟨z, by simp, h1.symm, h3⟩
      · obtain ⟨y, hy, e⟩ := ih rs k p v hm
        exact ⟨y, List.mem_cons_of_mem _ hy, e⟩
theorem kt_has {H : Hp} {l : List (List Str × Int)} : ∀ {xs : List (List L2.Key × Addr × Value)}, KT H (encD l) xs → ∀ z ∈ l, ∃ p t, (z.1.map Sum.inr, p, .int z.2 t) ∈ xs := by
  induction l with
  | nil => intro xs _ z hz; cases hz
  | cons y t ih =>
    intro xs h z hz
    cases h with
    | cons r rs =>
      rcases List.mem_cons.mp hz with e | hz
      · subst e
        obtain ⟨h1, h2, tk, h3⟩ := r
        rename_i q _
        refine ⟨q.2.1, tk, ?_⟩
        have : q = (z.1.map Sum.inr, q.2.1, .int z.2 tk) := by
          obtain ⟨q1, q2, q3⟩ := q
          simp only at h1 h3
          rw [← h1, h3]
        exact this ▸ List.mem_cons_self
      · obtain ⟨p, tk, hm⟩ := ih rs z hz
        exact ⟨p, tk, List.mem_cons_of_mem _ hm⟩
theorem op_neG (hu : X.A.units + 65 < cLine) : OpR X (compareOp .NotEq) (rNeG X.K) := by
  intro pins s σ H x y v u Q I rx ry h
  obtain ⟨a, b, d, d', p, p', l, l', ns, rfl, rfl, ha, hb, hd, hd', hp, hp', hl, hm, q⟩ := h
  cases rx
  cases ry
  obtain ⟨i1, r1, p1, _⟩ := I.list ha
  obtain ⟨i2, r2, p2, _⟩ := I.list hb
  obtain ⟨x1, x2, rfl, e1, e2⟩ := vals2 r1
  obtain ⟨y1, y2, rfl, g1, g2⟩ := vals2 r2
  cases (show x1 = Value.ref d from e1)
  cases (show x2 = Value.ref p from e2)
  cases (show y1 = Value.ref d' from g1)
  cases (show y2 = Value.ref p' from g2)
  have u1 : X.A.in1.units = X.A.units + 1 := rfl
  have u2 : X.A.in1.in1.units = X.A.units + 1 + 1 := rfl
  obtain ⟨z1, s1, xs, k1, m1⟩ := dt_of I.hok hd
  obtain ⟨z2, s2, ys, k2, m2⟩ := dt_of I.hok hd'
  refine SeqAt.rg_ne p1.isList p2.isList rfl (by omega) (fun j h1 h2 => ?_) _ _ ⟨.bl false, H, I, rfl, q⟩
  match j, h1, h2 with
  | 0, _, _ =>
    by_cases hdd : d = d'
    · subst hdd; exact (SeqAt.EqAt.same _).eqP
    refine SeqAt.eqP_refs hdd fun E Q hq => ?_
    refine dicts_eq (knd := tupleKind (mixKind X.prog X.w)) (show X.A.in1.in1.units < cLine by omega) (by omega) s1 s2 m1 m2 ?_ (fun k q v hkv => ?_) E Q hq
    · have e1 : (encD l).length = xs.length := Paired.length k1
      have e2 : (encD l').length = ys.length := Paired.length k2
      unfold encD at e1 e2
      rw [List.length_map] at e1 e2
      omega
    · obtain ⟨z, hz, rfl, t, rfl⟩ := kt_mem k1 _ _ _ hkv
      obtain ⟨p', t', hin⟩ := kt_has k2 z (hm z hz)
      refine ⟨p', _, hin, ?_⟩
      have w := SeqAt.EqAt.int_int (A := X.A.in1.in1) (s := s) z.2 t z.2 t'
      rw [beq_self_eq_true] at w
      exact w.eqP
  | 1, _, _ =>
    have e := eqE I (.list (ns.map PyData.int)) (.list (ns.map PyData.int)) X.A.in1 (.ref p) (.ref p') (.ref p) (.ref p') (.lst hp (map_int_dat ns)) (.lst hp' (map_int_dat ns)) rfl rfl (by
      have h1 : (PyData.list (ns.map PyData.int)).depth ≤ 1 := PyD.depth ns
      omega)
    rw [show PyData.eqv (.list (ns.map PyData.int)) (.list (ns.map PyData.int)) = true by
      have z := eqv_dat (x := ns) (y := ns)
      rw [decide_eq_true rfl] at z; exact z] at e
    exact e.eqP
  | j + 2, h1, _ => simp at h1; omega
/-! ### sum of a tuple -/
def rSumT (K : PySem.W.Frag) : List V → Hp → VK → Prop := fun vs H Q => ∃ (a : Addr) (ns : List Int), vs = [V.ref a] ∧ SqT K H a (ns.map V.int) ∧ Q (.int ns.sum) H
theorem cr_sumT (hc : X.calm = true) : CallR X (.builtin "sum") (rSumT X.K) := by
  intro pins s σ H vs us Q I r h
  obtain ⟨a, ns, rfl, hs, q⟩ := h
  obtain ⟨its, rv, ht, _⟩ := I.tuple hs
  rw [Vals.ref1 r]
  have ht' : s.heap.IsTuple a its.toArray := ht
  obtain ⟨xs, hx⟩ := rv.ints.allInts.items
  have hn : numsOf its.toArray.toList = ns := by rw [show its.toArray.toList = its from rfl, rv.ints.numsOf]
  rw [hx] at ht' hn
  rw [nums_intItems] at hn
  refine PySem.W.ktm_sumG (I.ok.hd hc) ht' fun h' tk t' hk => ?_
  rw [preSum_eq, List.take_of_length_le (by simp), hn]
  exact ⟨.int _, H, I.kept hk, ⟨_, rfl⟩, q⟩
end
section
variable {α β γ : Type} [Py α] [Py β] [Py γ] {W : Wd} {M M' N : List Addr} {σ : L2.St} {H H' : Hp} {ta tb te : TE} {tr : TA} {v : V} {x : α} {y : β} {k l : Nat} {p : Addr} {D : Ends} {E : XK}
theorem ev_sumT {xs : Tup Int} (ha : Ev W M ta σ H xs) : Ev W M (tCB (rSumT W.K) (tCons ta tNil)) σ H xs.l.sum := fun H1 e ok Q q =>
  ha H1 e ok _ fun v H2 e2 r => by
    obtain ⟨a, vs, ev, hh, _, _, pp⟩ := r.tup
    refine ⟨a, xs.l, by rw [ev], .inl (by rw [paired_toV pp] at hh; exact hh), q _ H2 e2 rep_int⟩
/-! ### a, b = a list of two -/
def gPairL (K : PySem.W.Frag) (k l : Nat) : TG := gLst K 2 (gCons (gName k) (gCons (gName l) gNil))
theorem s_set2L {x1 x2 : α} (ok : Ok W M H) (h : Ev W M te σ H [x1, x2]) (q : ∀ v u H', Ex W [] H H' → Ok W M H' → Rep W M H' v x1 → Rep W M H' u x2 → D.nx ((σ.set k (some v)).set l (some u)) H') : tAsg te (gPairL W.K k l) D σ H :=
  h H Ex.refl ok _ fun v H' e r => by
    obtain ⟨a, vs, ev, hh, _, _, pp⟩ := r.lst
    cases pp with
    | cons r1 pp =>
      cases pp with
      | cons r2 pp =>
        cases pp
        exact ⟨a, _, ev, SqL.of hh, rfl, _, _, rfl, _, [], rfl, rfl, q _ _ H' e (ok.ex e) r1 r2⟩
/-! ### xs = [x] * n, a list that will be filled otherwise -/
theorem ev_rep {xs : List α} {n : Int} (ha : Ev W M ta σ H xs) (hb : Ev W M tb σ H n) (h0 : 0 ≤ n) (h1 : n ≤ 1000) (h2 : xs.length ≤ 100) : Ev W M (tOp rRep ta tb) σ H (List.replicate n.toNat xs).flatten := fun H1 e ok Q q =>
  ha H1 e ok _ fun v H2 e2 r => hb H2 (e.trans e2) (ok.ex e2) _ fun u H3 e3 r3 => by
    obtain ⟨a, vs, rfl, hh, _, _, pp⟩ := (r.up e3).lst
    have ok3 := (ok.ex e2).ex e3
    have rp : ∀ m : Nat, Paired (Rep W M H3) (List.replicate m vs).flatten (List.replicate m xs).flatten := fun m => by
      induction m with
      | zero => exact .nil
      | succ m ih => rw [List.replicate_succ, List.replicate_succ, List.flatten_cons, List.flatten_cons]; exact Pd.append pp ih
    refine ⟨a, n, vs, rfl, r3, hh, by omega, by omega, ?_, fun p hp => q _ _ ((e2.trans e3).trans (Ex.new hp)) (rep_lst upd_same (ok3.new_b hp) (ok3.new_M hp) (Pd.mono (rp _) fun _ _ r => r.up (Ex.new hp)))⟩
    rw [Pd.length pp]
    have : xs.length * n.toNat ≤ 100 * 1000 := Nat.mul_le_mul h2 (by omega)
    exact Nat.le_trans this (by decide)
/-- a list of scalars that an expression makes anew is filled -/
theorem s_rep {n m : Int} (ok : Ok W M H) (hb : Ev W M tb σ H n) (h0 : 0 ≤ n) (h1 : n ≤ 1000) (hk : k < σ.length)
    (q : ∀ p H', H p = none → Ex W [] H H' → Le (cut W M H) (cut W (p :: M) H') → Ok W (p :: M) H' → Acc W (p :: M) (σ.set k (some (.ref p))) H' k p (List.replicate n.toNat m) → D.nx (σ.set k (some (.ref p))) H') : tAsg (tOp rRep (tLst (tCons (tC (.int m)) tNil)) tb) (gName k) D σ H := by
  refine ⟨by show 1 ≤ sizeLine; decide, fun l hl => ?_⟩
  have e1 : Ex W [] H (upd H l (.lst [.int m])) := Ex.new hl
  have ok1 := ok.ex e1
  refine hb _ e1 ok1 _ fun u H3 e3 r3 => ?_
  cases (show u = .int n from r3)
  have ok3 := ok1.ex e3
  have e13 := e1.trans e3
  have hv : (List.replicate n.toNat [V.int m]).flatten = (List.replicate n.toNat m).map PyS.toV := by
    induction n.toNat with
    | zero => rfl
    | succ j ih => rw [List.replicate_succ, List.flatten_cons, ih, List.replicate_succ]; rfl
  refine ⟨l, n, [.int m], rfl, rfl, e3.keep _ _ (ok.new_b hl) (by simp) upd_same, by omega, by omega, ?_, fun p hp => ?_⟩
  · show 1 * n.toNat ≤ sizeLine
    exact Nat.le_trans (show 1 * n.toNat ≤ 1000 by omega) (by decide)
  · exact q p _ (e13.free hp) (e13.trans (Ex.new hp)) (e13.up.le.trans (le_new hp)) (ok3.grow hp) ⟨by rw [List.getElem?_set_self hk], ok3.new_b hp, ok3.new_bl hp, List.mem_cons_self, _, upd_same, by rw [hv]; exact toV_paired⟩
/-! ### __init__ of two arguments -/
def I2 (K : PySem.W.Frag) (C : Str → Addr) (cn : Str) (pre : α → β → Prop) (f : α → β → γ) : Sp := fun vs H Q _ => ∃ (W : Wd) (M : List Addr) (a dx : Addr) (v u : V) (x : α) (y : β), W.K = K ∧ W.C = C ∧ vs = [.ref a, v, u] ∧ Ok W (a :: dx :: M) H ∧ a ≠ W.b ∧ a ≠ W.bl ∧ a ∉ M ∧
  H a = some (.ins (C cn) dx []) ∧ Rep W (a :: dx :: M) H v x ∧ Rep W (a :: dx :: M) H u y ∧ pre x y ∧ ∀ H', Ex W [a] H H' → Rep W M H' (.ref a) (f x y) → Q .non H'
theorem ev_make2 {cn : Str} {pre : α → β → Prop} {f : α → β → γ} (ha : Ev W M ta σ H x) (hb : Ev W M tb σ H y) (hp : pre x y) : Ev W M (tMake (W.C cn) (I2 W.K W.C cn pre f) [] E (tCons ta (tCons tb tNil))) σ H (f x y) := fun H1 e ok Q q =>
  ha H1 e ok _ fun v H2 e2 r => hb H2 (e.trans e2) (ok.ex e2) _ fun u H3 e3 r3 a dx hx hd hn => by
    have ok3 := (ok.ex e2).ex e3
    have hd' : upd H3 dx (.own a) a = none := by rw [upd_ne (Ne.symm hn)]; exact hx
    have okd := ok3.grow (o := .own a) hd
    refine ⟨W, M, a, dx, v, u, x, y, rfl, rfl, rfl, okd.grow hd', okd.new_b hd', okd.new_bl hd', ok3.new_M hx, upd_same, ((r.up e3).grow hd).grow hd', (r3.grow hd).grow hd', hp, fun H4 e4 rr => ⟨rfl, q _ H4 ?_ rr⟩⟩
    have e5 : Ex W [] H3 (upd (upd H3 dx (.own a)) a (.ins (W.C cn) dx [])) := (Ex.new hd).trans (Ex.new hd')
    refine (e2.trans e3).trans ⟨fun b o nb _ hb => e4.keep b o nb (fun z => ?_) (e5.keep b o nb (by simp) hb), fun b hb => e4.some_ b (e5.some_ b hb), fun z => e4.bag (e5.bag z)⟩
    have : b = a := by simpa using z
    rw [this, hx] at hb
    cases hb
end
end RG
namespace RG
open PySem PySem.Spec PyProof.Rows L2 StX RZ

/-! ### menus, in plain Lean -/
abbrev lettersS : Str := "abcdefghijklmnopqrstuvwxyz"
abbrev digitsS : Str := "0123456789"
/-- a column: its name, its worths -/
abbrev Col := Str × List Str
def isName (z : Str) : Bool := decide ((1 : Int) ≤ z.length) && decide ((z.length : Int) ≤ 8) && ((signs z).map (inS lettersS)).all id
def isWorth (z : Str) : Bool := decide ((1 : Int) ≤ z.length) && decide ((z.length : Int) ≤ 8) && ((signs z).map fun s => inS lettersS s || inS digitsS s).all id
def areDiff (xs : List Str) : Bool := (xs.map fun x => decide ((xs.count x : Int) = 1)).all id
def isCol (c : Col) : Bool := isName c.1 && (decide ((1 : Int) ≤ c.2.length) && decide ((c.2.length : Int) ≤ 12)) && ((c.2.map isWorth).all id && areDiff c.2)
def kstep (found : List (List Str)) (c : Col) : List (List Str) := found.flatMap fun k => c.2.map fun z => k ++ [z]
def kinds (cs : List Col) : List (List Str) := cs.foldl kstep [[]]
def areCols (cs : List Col) : Bool := (decide ((1 : Int) ≤ cs.length) && decide ((cs.length : Int) ≤ 3)) && ((cs.map isCol).all id && areDiff (cs.map (·.1))) && decide (((kinds cs).length : Int) ≤ 12)
/-- what the package is asked: texts and lists of a fair length -/
def Fair (cs : List Col) : Prop := cs.length ≤ 1000 ∧ ∀ c ∈ cs, c.1.length ≤ 1000 ∧ c.2.length ≤ 1000 ∧ ∀ z ∈ c.2, z.length ≤ 1000
/-- so few that their kinds can be told one by one -/
def Few (cs : List Col) : Prop := cs.length ≤ 3 ∧ ∀ c ∈ cs, c.2.length ≤ 12
theorem isCol_few {c : Col} (h : isCol c = true) : c.2.length ≤ 12 := by
  unfold isCol at h
  simp only [Bool.and_eq_true, decide_eq_true_eq] at h
  omega
theorem Few.take {cs : List Col} (h : Few cs) (i : Nat) : Few (cs.take i) := ⟨by rw [List.length_take]; have := h.1; omega, fun c hc => h.2 c (List.mem_of_mem_take hc)⟩
theorem kstep_len {found : List (List Str)} {c : Col} : (kstep found c).length = found.length * c.2.length := by
  unfold kstep
  rw [List.length_flatMap]
  induction found with
  | nil => simp
  | cons k t ih => rw [List.map_cons, List.sum_cons, ih, List.length_map, List.length_cons, Nat.succ_mul, Nat.add_comm]
theorem kinds_take {cs : List Col} {i : Nat} {c : Col} (h : cs[i]? = some c) : kinds (cs.take (i + 1)) = kstep (kinds (cs.take i)) c := by
  unfold kinds
  rw [List.take_add_one, h, List.foldl_append]; rfl
theorem kfold_len {cs : List Col} : ∀ {found : List (List Str)}, (cs.foldl kstep found).length = found.length * (cs.map fun c => c.2.length).foldl (· * ·) 1 := by
  induction cs with
  | nil => intro f; simp
  | cons c cs ih =>
    intro f
    rw [List.foldl_cons, ih, kstep_len, List.map_cons, List.foldl_cons]
    have : ∀ (l : List Nat) (a : Nat), l.foldl (· * ·) a = a * l.foldl (· * ·) 1 := by
      intro l
      induction l with
      | nil => intro a; simp
      | cons x l ih => intro a; rw [List.foldl_cons, List.foldl_cons, ih (a * x), ih (1 * x), Nat.mul_assoc, Nat.one_mul]
    rw [this _ (1 * _), Nat.one_mul, Nat.mul_assoc]
theorem kfold_mem {cs : List Col} : ∀ {found : List (List Str)} {n : Nat}, (∀ k ∈ found, k.length = n) → ∀ k ∈ cs.foldl kstep found, k.length = n + cs.length := by
  induction cs with
  | nil => intro f n h k hk; exact h k hk
  | cons c cs ih =>
    intro f n h k hk
    rw [List.foldl_cons] at hk
    have := ih (n := n + 1) (fun k hk => by
      unfold kstep at hk
      obtain ⟨k', hk', hk⟩ := List.mem_flatMap.mp hk
      obtain ⟨z, _, rfl⟩ := List.mem_map.mp hk
      rw [List.length_append, h k' hk']; rfl) k hk
    rw [this, List.length_cons]; omega
theorem kind_len {cs : List Col} {k : List Str} (h : k ∈ kinds cs) : k.length = cs.length := by
  have := kfold_mem (cs := cs) (found := [[]]) (n := 0) (fun k hk => by simp at hk; rw [hk]; rfl) k h
  omega
theorem Few.num {cs : List Col} (h : Few cs) (h2 : cs.length ≤ 2) : (kinds cs).length ≤ 144 := by
  unfold kinds
  match cs, h, h2 with
  | [], _, _ => simp
  | [a], h, _ =>
    have := h.2 a (by simp)
    simp only [List.foldl_cons, List.foldl_nil, kstep_len, List.length_cons, List.length_nil]
    omega
  | [a, b], h, _ =>
    have h1 := h.2 a (by simp)
    have h2 := h.2 b (by simp)
    simp only [List.foldl_cons, List.foldl_nil, kstep_len, List.length_cons, List.length_nil]
    have : (0 + 1) * a.2.length * b.2.length ≤ (0 + 1) * 12 * 12 := Nat.mul_le_mul (Nat.mul_le_mul_left _ h1) h2
    omega
theorem kstep_mk {found : List (List Str)} {c : Col} : (kstep found c).map TupK.mk = (found.map TupK.mk).flatMap fun k => c.2.map fun s => TupK.mk (k.l ++ [s]) := by
  unfold kstep
  rw [List.map_flatMap, List.flatMap_map]
  congr 1
  funext k
  rw [List.map_map]; rfl
theorem areCols_few {cs : List Col} (h : areCols cs = true) : Few cs := by
  unfold areCols at h
  simp only [Bool.and_eq_true, decide_eq_true_eq, List.all_map] at h
  exact ⟨by omega, fun c hc => isCol_few (List.all_eq_true.mp h.1.2.1 c hc)⟩
/-- columns as they are handed in: lists or tuples -/
abbrev ColQ := Str × Sq Str
def unQ (c : ColQ) : Col := (c.1, c.2.l)
def toQ (c : Col) : ColQ := (c.1, ⟨c.2⟩)
abbrev ColT := Str × Tup Str
def toT (c : Col) : ColT := (c.1, ⟨c.2⟩)
theorem unQ_toQ (c : Col) : unQ (toQ c) = c := rfl
theorem unQ_map (cs : List Col) : (cs.map toQ).map unQ = cs := by rw [List.map_map]; exact (List.map_congr_left fun c _ => unQ_toQ c).trans (List.map_id cs)
theorem toQ_map (cs : List ColQ) : (cs.map unQ).map toQ = cs := by rw [List.map_map]; exact (List.map_congr_left fun c _ => rfl).trans (List.map_id cs)

/-! ### a menu -/
structure Menu where
  cols : List Col
  deriving DecidableEq
def colsT (m : Menu) : Tup ColT := ⟨m.cols.map toT⟩
def kindsT (m : Menu) : Tup TupK := ⟨(kinds m.cols).map TupK.mk⟩
instance : Py Menu where
  rep W H v m := ∃ a dx v1 o p vs, v = .ref a ∧ H a = some (.ins (W.C "Menu") dx [("own_columns", v1), ("own_kinds", .ref p)]) ∧ Py.rep W H v1 (colsT m) ∧ H p = some (.frz o (.tup vs)) ∧ o.cls = .type "tuple" ∧ o.dict = none ∧ Paired (Py.rep W H) vs (kindsT m).l
  mono l h := by
    obtain ⟨a, dx, v1, o, p, vs, e, h1, h2, h3, h4, h5, h6⟩ := h
    exact ⟨a, dx, v1, o, p, vs, e, l.ex _ _ h1, Py.mono l h2, l.ex _ _ h3, h4, h5, paired_mono (fun _ _ r => Py.mono l r) h6⟩
instance : PyO Menu where
  cn := "Menu"
  fns := ["own_columns", "own_kinds"]
  ins h := by
    obtain ⟨a, dx, v1, o, p, vs, e, h1, _⟩ := h
    exact ⟨a, dx, _, e, h1, rfl⟩
def placeOf (m : Menu) (d : PyData) : Int := ((((kindsT m).l.map PyD.dat).map fun z => PyData.eqv z d).idxOf true : Nat)
def holds (m : Menu) (d : PyData) : Bool := isTupD d && ((kindsT m).l.map fun k => PyData.eqv d (PyD.dat k)).any id
def menuText (cs : List Col) : Str := Txt.join "; " (cs.map fun c => Txt.join " " (c.1 :: c.2))
def textCols (z : Str) : List Col := (Txt.split z "; ").map fun p => ((Txt.split p " ").headD Str.empty, (Txt.split p " ").drop 1)

/-! ### the promises -/
section
variable (K : PySem.W.Frag) (C : Str → Addr)
abbrev sp_is_name : Sp := F1 K C (fun z : Str => z.length ≤ 1000) isName
abbrev sp_is_worth : Sp := F1 K C (fun z : Str => z.length ≤ 1000) isWorth
abbrev sp_are_different : Sp := F1 K C (fun xs : List Str => xs.length ≤ 1000) areDiff
abbrev sp_is_column : Sp := F1 K C (fun c : ColQ => Fair [unQ c]) fun c => isCol (unQ c)
abbrev sp_are_columns : Sp := F1 K C (fun cs : Sq ColQ => Fair (cs.l.map unQ)) fun cs => areCols (cs.l.map unQ)
abbrev sp_kinds_of : Sp := F1 K C (fun cs : Sq ColQ => Few (cs.l.map unQ)) fun cs => (kinds (cs.l.map unQ)).map TupK.mk
abbrev sp_Menu_columns : Sp := F1 K C (fun _ : Menu => True) colsT
abbrev sp_Menu_kinds : Sp := F1 K C (fun _ : Menu => True) kindsT
abbrev sp_Menu_len : Sp := F1 K C (fun _ : Menu => True) fun m => ((kinds m.cols).length : Int)
abbrev sp_Menu_contains : Sp := F2 K C (fun (m : Menu) (d : PyData) => (kinds m.cols).length ≤ 1000 ∧ d.depth ≤ 64) holds
abbrev sp_Menu_place : Sp := F2 K C (fun (m : Menu) (d : PyData) => (kinds m.cols).length ≤ 1000 ∧ d.depth ≤ 64 ∧ holds m d = true ∧ true ∈ ((kindsT m).l.map PyD.dat).map fun z => PyData.eqv z d) placeOf
abbrev sp_Menu_same : Sp := F2 K C (fun (_ _ : Menu) => True) fun m n => decide (colsT m = colsT n)
abbrev sp_Menu_text : Sp := F1 K C (fun m : Menu => Fair m.cols ∧ m.cols.length ≤ 3 ∧ ∀ c ∈ m.cols, c.2.length ≤ 12) fun m => menuText m.cols
abbrev sp_Menu_init : Sp := I1 K C "Menu" (fun cs : Sq ColQ => Fair (cs.l.map unQ) ∧ areCols (cs.l.map unQ) = true) fun cs => Menu.mk (cs.l.map unQ)
/-- the class, then a text -/
def sp_Menu_read : Sp := fun vs H Q _ => ∃ (W : Wd) (M : List Addr) (z : Str), W.K = K ∧ W.C = C ∧ vs = [.ref (C "Menu"), .str z] ∧ Ok W M H ∧ z.length ≤ 100000 ∧ (∀ p ∈ Txt.split z "; ", p.length ≤ 100000 ∧ Txt.split p " " ≠ []) ∧ Fair (textCols z) ∧ areCols (textCols z) = true ∧
  ∀ r H', Ex W [] H H' → Rep W M H' r (Menu.mk (textCols z)) → Q r H'
end
end RG
namespace RG
open PySem PySem.Spec PyProof.Rows L2 StX RZ
section
variable {α β γ : Type} [Py α] [Py β] [Py γ] {W : Wd} {M M' N : List Addr} {σ σ' : L2.St} {H H1 H2 H' : Hp} {te ta tb tc tl : TE} {tr : TA} {x : α} {y : β} {v : V} {E : XK} {i k l : Nat}
/-- any data == data of a kind -/
theorem ev_eqP {δ : Type} [DecidableEq δ] [PyD δ] {d : PyData} {y : δ} (ha : Ev W M ta σ H d) (hb : Ev W M tb σ H y) (hd : d.depth ≤ 64) : Ev W M (tOp (rEqE W.K) ta tb) σ H (PyData.eqv d (PyD.dat y)) := fun H1 e ok Q q =>
  ha H1 e ok _ fun v H2 e2 r => hb H2 (e.trans e2) (ok.ex e2) _ fun u H3 e3 r3 =>
    ⟨d, _, dp_le cut_le _ _ (r.up e3), r3.dp, hd, q _ H3 (e2.trans e3) rep_bl⟩
/-- data of a kind is data -/
theorem Rep.toD {δ : Type} [DecidableEq δ] [PyD δ] {y : δ} (r : Rep W M H v y) : Rep W M H v (PyD.dat y) := PyD.dp (W := W) r
theorem Ev.toD {δ : Type} [DecidableEq δ] [PyD δ] {y : δ} (h : Ev W M te σ H y) : Ev W M te σ H (PyD.dat y) := h.cv fun _ _ r => r.toD
theorem join_le {z : Str} {xs : List Str} {n : Nat} (h : ∀ x ∈ xs, x.length ≤ n) : (xs.map (·.length)).sum + xs.length * z.length ≤ xs.length * (n + z.length) := by
  induction xs with
  | nil => simp
  | cons x t ih =>
    have h1 := h x (by simp)
    have h2 := ih fun y hy => h y (List.mem_cons_of_mem _ hy)
    simp only [List.map_cons, List.sum_cons, List.length_cons]
    rw [Nat.succ_mul, Nat.succ_mul]
    omega
theorem join_len {z : Str} {xs : List Str} {n : Nat} (h : ∀ x ∈ xs, x.length ≤ n) : (Txt.join z xs).length ≤ xs.length * (n + z.length) := by
  rw [TL.join_eq]
  exact Nat.le_trans (StrLaws.join_length_le z xs) (join_le h)
/-! ### slices -/
theorem cutG_from {ω : Type} {xs : List ω} : cutG xs (some 1) none = xs.drop 1 := by
  unfold cutG HT.sIx
  simp
  cases xs with
  | nil => rfl
  | cons a t => simp
/-- columns, lists or tuples, as they are asked for -/
theorem Rep.colsQ {cs : List Col} (r : Rep W M H v cs) : Rep W M H v (Sq.mk (cs.map toQ)) := (r.lmap fun _ _ r => r.pmap fun _ r => r.toSq).toSq
theorem Rep.colsTQ {cs : List Col} (r : Rep W M H v (Tup.mk (cs.map toT))) : Rep W M H v (Sq.mk (cs.map toQ)) := by
  have h : Rep W M H v (Tup.mk ((cs.map toT).map fun c : ColT => ((c.1, ⟨c.2.l⟩) : ColQ))) := r.tmap (f := fun c : ColT => ((c.1, ⟨c.2.l⟩) : ColQ)) fun _ _ r => r.pmap fun _ r => r.toSqT
  rw [List.map_map] at h
  exact h.toSqT
/-! ### a menu's fields -/
theorem mn_cols {m : Menu} (ha : Ev W M ta σ H m) (c : Cls W.K (W.C "Menu")) (n : NoAttr W.K (W.C "Menu") "own_columns") : Ev W M (tFld W.K ta "own_columns") σ H (colsT m) :=
  ev_fld ha c n fun {v H2} r {a dx fs} e hh => by
    obtain ⟨a', dx', v1, o, p, vs, e', h1, h2, _⟩ := r
    subst e; cases e'
    rw [cut_at h1] at hh; cases hh
    exact ⟨v1, by rw [List.lookup_cons, beq_self_eq_true], h2⟩
theorem mn_kinds {m : Menu} (ha : Ev W M ta σ H m) (c : Cls W.K (W.C "Menu")) (n : NoAttr W.K (W.C "Menu") "own_kinds") : Ev W M (tFld W.K ta "own_kinds") σ H (kindsT m) :=
  ev_fld ha c n fun {v H2} r {a dx fs} e hh => by
    obtain ⟨a', dx', v1, o, p, vs, e', h1, h2, h3, h4, h5, h6⟩ := r
    subst e; cases e'
    rw [cut_at h1] at hh; cases hh
    exact ⟨.ref p, by rw [List.lookup_cons, show (("own_kinds" : Str) == "own_columns") = false by decide +kernel]; rfl, p, vs, rfl, .inr ⟨o, h3⟩, h6⟩
theorem mn_place {m : Menu} {d : PyData} (ha : Ev W M ta σ H m) (hb : Ev W M tb σ H d) (c : Cls W.K (W.C "Menu")) (n : NoAttr W.K (W.C "Menu") "own_kinds") (hm : true ∈ ((kindsT m).l.map PyD.dat).map fun z => PyData.eqv z d) :
    Ev W M (tBMF "tuple" (rIdxT W.K) (tFld W.K ta "own_kinds") (tCons tb tNil)) σ H (placeOf m d) := fun H1 e ok Q q =>
  ha H1 e ok _ fun v H2 e2 r => by
    have hl : (("own_kinds" : Str) == "own_columns") = false := by decide +kernel
    obtain ⟨a, dx, v1, o, p, vs, e', h1, h2, h3, h4, h5, h6⟩ := id r
    refine ⟨a, _, dx, _, .ref p, e', cut_at h1, c, n, by rw [List.lookup_cons, hl]; rfl, ⟨p, o, _, rfl, cut_at h3, h4, h5⟩, hb H2 (e.trans e2) (ok.ex e2) _ fun u H3 e3 r3 => ?_⟩
    obtain ⟨a', dx', v1', o', p', vs', e'', k1, k2, k3, k4, k5, k6⟩ := id (r.up e3)
    rw [e'] at e''; cases e''
    have := e3.keep _ _ (cut_some.mp h1).1 (by simp) (cut_at h1)
    rw [cut_at k1] at this; cases this
    exact ⟨p, o', vs', u, _, d, rfl, rfl, cut_at k3, Rep.dpAll k6, dp_le cut_le _ _ r3, Nat.le_trans (depthAll_le _) (by decide), hm, q _ H3 (e2.trans e3) rep_int⟩
/-! ### what stands in a slot -/
theorem ev_makeL {C : Addr} {sp : Sp} {t : TA} (hs : σ[i]? = some (some (.ref C))) (h : Ev W M (tMake C sp [] E0 t) σ H x) : Ev W M (tMakeL i C sp t) σ H x := fun H1 e ok Q q => ⟨hs, h H1 e ok Q q⟩
/-- self.f = e, in __init__ -/
theorem s_fld {a C dx : Addr} {f : Str} {fs : List (Str × V)} {D : Ends} (ok : Ok W M H) (h : Ev W M te σ H x) (hs : σ[i]? = some (some (.ref a))) (nb : a ≠ W.b) (nbl : a ≠ W.bl) (hm : a ∈ M) (ha : H a = some (.ins C dx fs)) (c : Cls W.K C) (n : NoAttr W.K C f) (hl : fs.length < 1000)
    (q : ∀ v H', Ex W [a] H H' → Ok W M H' → Rep W M H' v x → H' a = some (.ins C dx (putF f v fs)) → D.nx σ H') : sFld W.K (tVar i) te f D σ H :=
  h H Ex.refl ok _ fun v H2 e2 r => by
    have ha2 := e2.keep a _ nb (by simp) ha
    have em : Ex W [a] H2 (upd H2 a (.ins C dx (putF f v fs))) := Ex.mut nb nbl (by simp)
    refine ⟨.ref a, hs, a, C, dx, fs, rfl, ha2, c, n, hl, q v _ (e2.up.trans em) ((ok.ex e2).ex em) (r.ex (em.sub (by simpa using hm))) upd_same⟩
/-- self.f, in __init__ -/
theorem ev_fldR {a C dx : Addr} {f : Str} {fs : List (Str × V)} {u : V} (hs : σ[i]? = some (some (.ref a))) (nb : a ≠ W.b) (ha : H a = some (.ins C dx fs)) (c : Cls W.K C) (n : NoAttr W.K C f) (hf : fs.lookup f = some u) (r : Rep W M H u x) : Ev W M (tFld W.K (tVar i) f) σ H x := fun H1 e ok Q q =>
  ⟨.ref a, hs, a, C, dx, fs, u, rfl, e.keep a _ nb (by simp) ha, c, n, hf, q u H1 Ex.refl (r.up e)⟩
end
end RG
namespace RG
open PySem PySem.Spec PyProof.Rows L2 StX RZ

/-! ### the bag of a law -/
section
variable {W : Wd} {M N : List Addr} {σ σ' : L2.St} {H H1 H2 H' : Hp} {te ta tb tc : TE} {D : Ends} {i m s c i' m' s' c' n k : Int} {a : Addr} {v w : V} {K : PySem.W.Frag}
/-- what the bag's list holds -/
def BS (W : Wd) (H : Hp) (i m s c : Int) : Prop := H W.b = some (.lst [.ref W.bl, .int i, .int m, .int s, .int c]) ∧ 0 ≤ i ∧ 0 ≤ m
theorem bs_of (h : BagAt W H) : ∃ i m s c, BS W H i m s c := let ⟨i, m, s, c, e, _, _, h0, h1⟩ := h; ⟨i, m, s, c, e, h0, h1⟩
theorem val_ix {vs : List V} (ha : Val ta σ H (.ref a)) (hb : Val tb σ H (.int n)) (h : SqL K H a vs) (hx : atI vs n = some v) : Val (tOp (rIxL K) ta tb) σ H v := fun Q q =>
  ha _ (hb _ ⟨a, vs, n, v, rfl, rfl, h, hx, q⟩)
theorem val_I0 {g : Int → Int → Int} (ha : Val ta σ H (.int n)) (hb : Val tb σ H (.int k)) : Val (tOp (rI0 fun i j => .int (g i j)) ta tb) σ H (.int (g n k)) := fun Q q => ha _ (hb _ ⟨n, k, rfl, rfl, q⟩)
theorem val_B0 {g : Int → Int → Bool} (ha : Val ta σ H (.int n)) (hb : Val tb σ H (.int k)) : Val (tOp (rI0 fun i j => .bl (g i j)) ta tb) σ H (.bl (g n k)) := fun Q q => ha _ (hb _ ⟨n, k, rfl, rfl, q⟩)
theorem val_I {C : Int → Int → Prop} {g : Int → Int → Int} (ha : Val ta σ H (.int n)) (hb : Val tb σ H (.int k)) (hc : C n k) : Val (tOp (rI C fun i j => .int (g i j)) ta tb) σ H (.int (g n k)) := fun Q q => ha _ (hb _ ⟨n, k, rfl, rfl, hc, q⟩)
theorem val_abs (ha : Val ta σ H (.int n)) : Val (tCB rAbs (tCons ta tNil)) σ H (.int (if n < 0 then -n else n)) := fun Q q => ha _ ⟨n, rfl, q⟩
theorem val_int (ha : Val ta σ H (.int n)) : Val (tCB rInt (tCons ta tNil)) σ H (.int n) := fun Q q => ha _ (.inl ⟨n, rfl, q⟩)
theorem val_intB {b : Bool} (ha : Val ta σ H (.bl b)) : Val (tCB rInt (tCons ta tNil)) σ H (.int (if b then 1 else 0)) := fun Q q => ha _ (.inr ⟨b, rfl, q⟩)
theorem val_len {vs : List V} (ha : Val ta σ H (.ref a)) (h : SqL K H a vs) : Val (tCB (rLenS K) (tCons ta tNil)) σ H (.int vs.length) := fun Q q => ha _ ⟨a, vs, rfl, .inl h, q⟩
theorem ans_t {b : Bool} (ha : Val ta σ H (.bl b)) : Ans (tTest ta) σ H b := fun Q q => ha _ ⟨b, rfl, q⟩
theorem ans_eqI (ha : Val ta σ H (.int n)) (hb : Val tb σ H (.int k)) : Ans (tTest (tOp rEq ta tb)) σ H (decide (V.int n = V.int k)) := ans_eq ha hb rfl rfl
theorem Ok.bls (h : Ok W M H) : SqL W.K H W.bl (W.ns.map V.int) := let ⟨_, _, _, _, _, _, e, _⟩ := h.bag; SqL.of e
theorem ns_at (h0 : 0 ≤ i) (h1 : i < (W.ns.map V.int).length) : ∃ k : Int, atI (W.ns.map V.int) i = some (.int k) := by
  refine ⟨W.ns.getD i.toNat 0, ?_⟩
  rw [List.length_map] at h1
  have h := atI_getD (xs := W.ns) 0 h0 h1
  unfold atI at h ⊢
  rw [List.length_map]
  cases hx : ixN W.ns.length i with
  | none => rw [hx] at h; cases h
  | some j =>
    rw [hx] at h
    show (W.ns.map V.int)[j]? = _
    rw [List.getElem?_map, show W.ns[j]? = _ from h]; rfl
theorem Bs.set0 (h : Bs W σ 0) {k : Nat} {v : V} (n : 0 ≠ k := by decide) : Bs W (σ.set k (some v)) 0 := h.set n
theorem if01 (b : Bool) : 0 ≤ (if b = true then 1 else 0 : Int) ∧ -(2 ^ 64) < (if b = true then 1 else 0 : Int) ∧ (if b = true then 1 else 0 : Int) < 2 ^ 64 := by cases b <;> decide
/-- bag[j] -/
theorem bs_get (hb : Bs W σ 0) (h : BS W H i m s c) (hx : atI [V.ref W.bl, .int i, .int m, .int s, .int c] n = some v) : Val (tOp (rIxL W.K) (tVar 0) (tC (.int n))) σ H v := val_ix (val_var hb) val_c (SqL.of h.1) hx
/-- bag[j] = e -/
theorem bs_set (ok : Ok W M H) (hb : Bs W σ 0) (h : BS W H i m s c) (he : Val te σ H v) {j : Nat} (hj : ixN 5 n = some j) (hs : [V.ref W.bl, .int i, .int m, .int s, .int c].set j v = [V.ref W.bl, .int i', .int m', .int s', .int c']) (h0 : 0 ≤ i') (h1 : 0 ≤ m')
    (q : ∀ H', Ex W [] H H' → Ok W M H' → BS W H' i' m' s' c' → D.nx σ H') : tAsg te (gSub (tVar 0) (tC (.int n)) rSetL) D σ H := by
  refine he _ ⟨.ref W.b, hb, W.b, _, n, j, rfl, rfl, h.1, hj, ?_⟩
  rw [hs]
  have e : Ex W [] H (upd H W.b (.lst [V.ref W.bl, .int i', .int m', .int s', .int c'])) := by
    refine ⟨fun a o nb _ ha => by rw [upd_ne nb]; exact ha, fun a ha => ?_, fun z => ?_⟩
    · by_cases z : a = W.b
      · rw [z, upd_same]; exact fun z => nomatch z
      · rw [upd_ne z]; exact ha
    · obtain ⟨i0, m0, s0, c0, e1, e2, e3, _⟩ := z
      exact ⟨i', m', s', c', upd_same, e2, by rw [upd_ne e2]; exact e3, h0, h1⟩
  exact q _ e (ok.ex e) ⟨upd_same, h0, h1⟩
end
section
variable {σ : L2.St} {H : Hp} {D : Ends} {b : Bool} {tt : TT} {t1 : TS}
/-- an if without else, whose both ways go on with J -/
theorem if_cut {J : L2.St → Hp → Prop} (h : Ans tt σ H b) (hJ : ∀ σ' H', J σ' H' → D.nx σ' H') (h1 : (∀ σ' H', J σ' H' → D.nx σ' H') → b = true → t1 D σ H) (h2 : b = false → J σ H) : tIfS tt t1 tNext D σ H := h _ (by
  cases b with
  | true => rw [if_pos rfl]; exact h1 hJ rfl
  | false => rw [if_neg Bool.false_ne_true]; exact hJ σ H (h2 rfl))
end
section
variable (K : PySem.W.Frag) (C : Str → Addr)
abbrev sp_law_draw : Sp := B1 K C (fun n : Int => 1 ≤ n ∧ n < 10 ^ 30) fun n (v : Int) => 0 ≤ v ∧ v < n
/-- [list(script), 0, 0, 17, 0]: a new bag, all that was there is kept -/
def sp_law_bag (K : PySem.W.Frag) (_ : Str → Addr) : Sp := fun vs H Q _ => ∃ (a : Addr) (ns : List Int), vs = [.ref a] ∧ SqL K H a (ns.map V.int) ∧ ∀ b l H', H b = none → H l = none → l ≠ b → H' = upd (upd H l (.lst (ns.map V.int))) b (.lst [.ref l, .int 0, .int 0, .int 17, .int 0]) → Q (.ref b) H'
end
end RG
namespace RG
open PySem PySem.Spec PyProof.Rows L2 StX RZ
/-! ### the promises of a law's helpers -/
def spPick (α : Type) [Py α] (K : PySem.W.Frag) (C : Str → Addr) : Sp := B1 K C (fun xs : List α => 1 ≤ xs.length ∧ xs.length ≤ 1000) (fun xs x => x ∈ xs)
def spMixed (α : Type) [Py α] (K : PySem.W.Frag) (C : Str → Addr) : Sp := B1 K C (fun xs : List α => xs.length ≤ 1000) (fun (xs ys : List α) => ys.Perm xs)
theorem atI_mem {ω : Type} {xs : List ω} {n : Int} (h0 : 0 ≤ n) (h1 : n < xs.length) : ∃ x, atI xs n = some x ∧ x ∈ xs := by
  have hj : n.toNat < xs.length := by omega
  refine ⟨xs[n.toNat], ?_, List.getElem_mem hj⟩
  have := atI_getD (xs := xs) xs[n.toNat] h0 h1
  rw [this, List.getD_eq_getElem?_getD, List.getElem?_eq_getElem hj]; rfl
theorem perm_pop {ω : Type} {xs ys zs : List ω} {j : Nat} {y : ω} (h : (ys ++ zs).Perm xs) (hj : zs[j]? = some y) : ((ys ++ [y]) ++ zs.eraseIdx j).Perm xs := by
  refine List.Perm.trans ?_ h
  rw [List.append_assoc]
  refine List.Perm.append_left ys ?_
  have : zs.Perm (y :: zs.eraseIdx j) := by
    clear h
    induction zs generalizing j with
    | nil => simp at hj
    | cons a t ih =>
      cases j with
      | zero => simp at hj; subst hj; simp
      | succ j =>
        simp only [List.getElem?_cons_succ] at hj
        have h2 := ih hj
        rw [List.eraseIdx_cons_succ]
        exact (h2.cons a).trans (List.Perm.swap y a _)
  exact this.symm
end RG
namespace RG
open PySem PySem.Spec PyProof.Rows L2 StX RZ TL

/-! ### names, in plain Lean -/
theorem letters_tl : tl lettersS = (List.range 26).map (97 + ·) := by decide +kernel
theorem letter_at {n : Int} (h0 : 0 ≤ n) (h1 : n < 26) : atI lettersS.cps.toList n = some (97 + n.toNat) := by
  have e : lettersS.cps.toList = (List.range 26).map (97 + ·) := letters_tl
  rw [e]
  have hj : n.toNat < 26 := by omega
  have := atI_getD (xs := (List.range 26).map (97 + ·)) 0 h0 (by rw [List.length_map, List.length_range]; omega)
  rw [this, List.getD_eq_getElem?_getD, List.getElem?_map, List.getElem?_range hj]; rfl
/-- a letter's code -/
def isL (c : Nat) : Prop := 97 ≤ c ∧ c < 123
theorem isL_mem {c : Nat} (h : isL c) : c ∈ tl lettersS := by
  rw [letters_tl]
  exact List.mem_map.mpr ⟨c - 97, List.mem_range.mpr (by unfold isL at h; omega), by unfold isL at h; omega⟩
theorem mem_isL {c : Nat} (h : c ∈ tl lettersS) : isL c := by
  rw [letters_tl] at h
  obtain ⟨k, hk, rfl⟩ := List.mem_map.mp h
  rw [List.mem_range] at hk
  unfold isL
  omega
theorem isName_of {z : Str} (h1 : 1 ≤ (tl z).length) (h8 : (tl z).length ≤ 8) (h : ∀ c ∈ tl z, isL c) : isName z = true := by
  unfold isName
  rw [len_tl]
  simp only [Bool.and_eq_true, decide_eq_true_eq, List.all_map, List.all_eq_true, Function.comp, id]
  refine ⟨⟨by omega, by omega⟩, fun s hs => ?_⟩
  obtain ⟨c, rfl, hc⟩ := signs_one hs
  unfold inS
  exact decide_eq_true (isL_mem (h c hc))
theorem isName_is {z : Str} (h : isName z = true) : 1 ≤ (tl z).length ∧ (tl z).length ≤ 8 ∧ ∀ c ∈ tl z, isL c := by
  unfold isName at h
  rw [len_tl] at h
  simp only [Bool.and_eq_true, decide_eq_true_eq, List.all_map, List.all_eq_true, Function.comp, id] at h
  refine ⟨by omega, by omega, fun c hc => ?_⟩
  have := h.2 ⟨#[c]⟩ (by unfold signs; exact List.mem_map_of_mem hc)
  unfold inS at this
  exact mem_isL (of_decide_eq_true this)
theorem cut_len {z : Str} {lo hi : Option Int} : (cutS z lo hi).length ≤ z.length := by
  unfold cutS
  rw [len_tl, tl_mk, len_tl, List.length_take, List.length_drop]
  show min _ ((tl z).length - _) ≤ _
  omega
/-- the k-th name -/
def nm (stem : Str) (wh sh lg : Int) (k : Int) : Str := cutS stem none (some wh) ++ (⟨#[97 + ((sh + 7 * k) % 26).toNat]⟩ : Str) ++ cutS stem (some wh) none ++ (if k % 3 = lg then (⟨#[97 + sh.toNat]⟩ : Str) else Str.empty)
theorem tl_cutL {z : Str} {w : Int} (h0 : 0 ≤ w) (h1 : w ≤ (tl z).length) : tl (cutS z none (some w)) = (tl z).take w.toNat := by
  unfold cutS HT.sIx
  rw [tl_mk, len_tl]
  simp only [if_neg (show ¬ w < 0 by omega), List.drop_zero, Nat.sub_zero]
  rw [Nat.min_eq_left (by omega)]
theorem tl_cutR {z : Str} {w : Int} (h0 : 0 ≤ w) (h1 : w ≤ (tl z).length) : tl (cutS z (some w) none) = (tl z).drop w.toNat := by
  unfold cutS HT.sIx
  rw [tl_mk, len_tl]
  simp only [if_neg (show ¬ w < 0 by omega)]
  rw [Nat.min_eq_left (by omega), List.take_of_length_le (by rw [List.length_drop]; exact Nat.le_refl _)]
/-- what the draws of a law's names are -/
structure NmOk (stem : Str) (size wh sh lg : Int) : Prop where
  len : ((tl stem).length : Int) = size
  ls : ∀ c ∈ tl stem, isL c
  s6 : size ≤ 6
  w0 : 0 ≤ wh
  w1 : wh ≤ size
  s0 : 0 ≤ sh
  s1 : sh < 26
section
variable {stem : Str} {size wh sh lg k : Int}
theorem NmOk.tle (h : NmOk stem size wh sh lg) : TL.tl (nm stem wh sh lg k) = (TL.tl stem).take wh.toNat ++ [97 + ((sh + 7 * k) % 26).toNat] ++ (TL.tl stem).drop wh.toNat ++ (if k % 3 = lg then [97 + sh.toNat] else []) := by
  obtain ⟨h1, h2, h3, h4, h5, h6, h7⟩ := h
  unfold nm
  rw [tl_append, tl_append, tl_append, tl_cutL h4 (by omega), tl_cutR h4 (by omega)]
  split <;> rfl
theorem NmOk.tlen (h : NmOk stem size wh sh lg) : ((TL.tl (nm stem wh sh lg k)).length : Int) = size + 1 + (if k % 3 = lg then 1 else 0) := by
  have h1 := h.len
  have h2 := h.w1
  have h3 := h.w0
  rw [h.tle, List.length_append, List.length_append, List.length_append, List.length_take, List.length_drop, List.length_singleton]
  generalize (TL.tl stem).length = n at *
  split
  · rw [List.length_singleton]; omega
  · rw [List.length_nil]; omega
theorem NmOk.ls' (h : NmOk stem size wh sh lg) : ∀ c ∈ TL.tl (nm stem wh sh lg k), isL c := by
  intro c hc
  rw [h.tle] at hc
  have h6 := h.s0
  have h7 := h.s1
  simp only [List.mem_append, List.mem_singleton] at hc
  rcases hc with ((hc | hc) | hc) | hc
  · exact h.ls c (List.mem_of_mem_take hc)
  · unfold isL; omega
  · exact h.ls c (List.mem_of_mem_drop hc)
  · split at hc
    · have : c = 97 + sh.toNat := by simpa using hc
      unfold isL; omega
    · cases hc
theorem NmOk.name (h : NmOk stem size wh sh lg) : isName (nm stem wh sh lg k) = true := by
  have h1 := h.tlen (k := k)
  have h2 := h.s6
  have h3 := h.len
  refine isName_of ?_ ?_ h.ls'
  · split at h1 <;> omega
  · split at h1 <;> omega
theorem NmOk.ne (h : NmOk stem size wh sh lg) {i j : Nat} (hij : i < j) (hj : j < 26) : nm stem wh sh lg (i : Int) ≠ nm stem wh sh lg (j : Int) := by
  intro e
  have e := congrArg TL.tl e
  rw [h.tle, h.tle] at e
  have hl : ((TL.tl stem).take wh.toNat).length = wh.toNat := by
    rw [List.length_take]
    have h1 := h.len
    have h2 := h.w1
    have h3 := h.w0
    omega
  have at_ : ∀ (c : Nat) (r q : List Nat), ((TL.tl stem).take wh.toNat ++ [c] ++ r ++ q)[wh.toNat]? = some c := fun c r q => by
    rw [List.append_assoc, List.append_assoc, List.getElem?_append_right (by rw [hl]; exact Nat.le_refl _), hl, Nat.sub_self]; rfl
  have e2 := congrArg (fun l => l[wh.toNat]?) e
  simp only [at_, Option.some.injEq] at e2
  have h6 := h.s0
  omega
end
theorem nodup_set {ω : Type} : ∀ {L : List ω} {i : Nat} {x : ω}, L.Nodup → x ∉ L → (L.set i x).Nodup
  | [], _, _, _, _ => List.nodup_nil
  | a :: t, 0, x, h, hx => by
    rw [List.set_cons_zero]
    exact List.nodup_cons.mpr ⟨fun z => hx (List.mem_cons_of_mem _ z), (List.nodup_cons.mp h).2⟩
  | a :: t, i + 1, x, h, hx => by
    rw [List.set_cons_succ]
    refine List.nodup_cons.mpr ⟨fun z => ?_, nodup_set (List.nodup_cons.mp h).2 fun z => hx (List.mem_cons_of_mem _ z)⟩
    rcases List.mem_or_eq_of_mem_set z with z | z
    · exact (List.nodup_cons.mp h).1 z
    · exact hx (by rw [z]; exact List.mem_cons_self)
/-- the names of a law -/
def NamesOk (count : Int) (words L : List Str) : Prop := (L.length : Int) = count ∧ L.Nodup ∧ ∀ z ∈ L, isName z = true ∨ z ∈ words
def nms (stem : Str) (wh sh lg : Int) (n : Nat) : List Str := (List.range n).map fun k : Nat => nm stem wh sh lg (k : Int)
theorem nms_succ {stem : Str} {wh sh lg : Int} {n : Nat} : nms stem wh sh lg (n + 1) = nms stem wh sh lg n ++ [nm stem wh sh lg (n : Int)] := by
  unfold nms
  rw [List.range_succ, List.map_append]; rfl
theorem NmOk.all {stem : Str} {size wh sh lg : Int} (h : NmOk stem size wh sh lg) {n : Nat} (hn : n ≤ 26) (words : List Str) : NamesOk n words (nms stem wh sh lg n) := by
  refine ⟨by unfold nms; simp, ?_, fun z hz => .inl ?_⟩
  · unfold nms
    rw [List.Nodup, List.pairwise_map]
    exact List.Pairwise.imp_of_mem (fun {a b} ha hb hab => h.ne hab (by rw [List.mem_range] at hb; omega)) List.pairwise_lt_range
  · obtain ⟨k, _, rfl⟩ := List.mem_map.mp hz
    exact h.name
/-- the second name made of the first -/
theorem NmOk.second {stem : Str} {size wh sh lg : Int} (h : NmOk stem size wh sh lg) {n : Nat} (hn : n ≤ 26) (h4 : size < 4) (h3 : lg = 3) (words : List Str) {c : Nat} (hc : isL c) : NamesOk n words ((nms stem wh sh lg n).set 1 (nm stem wh sh lg 0 ++ (⟨#[c]⟩ : Str))) := by
  obtain ⟨q1, q2, q3⟩ := h.all hn words
  have hno : ∀ k : Int, ¬ k % 3 = lg := fun k => by omega
  have hl : ∀ k : Int, ((tl (nm stem wh sh lg k)).length : Int) = size + 1 := fun k => by rw [h.tlen, if_neg (hno k)]; omega
  have hx : tl (nm stem wh sh lg 0 ++ (⟨#[c]⟩ : Str)) = tl (nm stem wh sh lg 0) ++ [c] := by rw [tl_append]
  refine ⟨by rw [List.length_set]; exact q1, nodup_set q2 fun hm => ?_, fun z hz => ?_⟩
  · obtain ⟨k, _, e⟩ := List.mem_map.mp hm
    have e2 := congrArg (fun z => (tl z).length) e
    simp only [hx, List.length_append, List.length_singleton] at e2
    have h1 := hl k
    have h2 := hl 0
    omega
  · rcases List.mem_or_eq_of_mem_set hz with hz | hz
    · exact q3 z hz
    · refine .inl ?_
      rw [hz]
      have h1 := hl 0
      have h2 := h.len
      refine isName_of (by rw [hx]; simp) (by rw [hx, List.length_append, List.length_singleton]; omega) fun d hd => ?_
      rw [hx] at hd
      rcases List.mem_append.mp hd with hd | hd
      · exact h.ls' d hd
      · rw [List.mem_singleton.mp hd]; exact hc
theorem NamesOk.word {n : Int} {words L : List Str} (h : NamesOk n words L) {i : Nat} {x : Str} (hx : x ∈ words) (hn : x ∉ L) : NamesOk n words (L.set i x) := by
  refine ⟨by rw [List.length_set]; exact h.1, nodup_set h.2.1 hn, fun z hz => ?_⟩
  rcases List.mem_or_eq_of_mem_set hz with hz | hz
  · exact h.2.2 z hz
  · exact .inr (hz ▸ hx)
abbrev sp_law_names (K : PySem.W.Frag) (C : Str → Addr) : Sp := B2 K C (fun (count : Int) (words : List Str) => 1 ≤ count ∧ count ≤ 26 ∧ 1 ≤ words.length ∧ words.length ≤ 1000 ∧ ∀ z ∈ words, z.length ≤ 1000) NamesOk
/-- the joined signs -/
theorem stem_tl {parts : List Str} (h : ∀ p ∈ parts, ∃ c, p = ⟨#[c]⟩ ∧ isL c) : (tl (Txt.join "" parts)).length = parts.length ∧ ∀ c ∈ tl (Txt.join "" parts), isL c := by
  have e : ∀ l : List (List Nat), joinL (tl ("" : Str)) l = l.flatten := by
    intro l
    have e0 : tl ("" : Str) = [] := by decide +kernel
    rw [e0]
    induction l with
    | nil => rfl
    | cons p t ih =>
      cases t with
      | nil => show p = _; simp
      | cons q r => show p ++ ([] ++ joinL [] (q :: r)) = _; rw [ih]; simp
  rw [join_eq, tl_join, e]
  induction parts with
  | nil => simp
  | cons p t ih =>
    obtain ⟨c, rfl, hc⟩ := h p (by simp)
    obtain ⟨i1, i2⟩ := ih fun q hq => h q (List.mem_cons_of_mem _ hq)
    rw [List.map_cons, List.flatten_cons]
    refine ⟨by rw [List.length_append, i1, List.length_cons, Nat.add_comm]; rfl, fun d hd => ?_⟩
    rcases List.mem_append.mp hd with hd | hd
    · have : d = c := by simpa using hd
      rw [this]; exact hc
    · exact i2 d hd
end RG
namespace RG
open PySem PySem.Spec PyProof.Rows L2 StX RZ TL

/-! ### the plains of a law, in plain Lean -/
def prod (cs : List Col) : Int := (cs.map fun c => (c.2.length : Int)).foldl (· * ·) 1
structure ColOk (c : Col) : Prop where
  name : isName c.1 = true
  l1 : 1 ≤ c.2.length
  l12 : c.2.length ≤ 12
  nd : c.2.Nodup
  ws : ∀ z ∈ c.2, isWorth z = true ∧ z ≠ ("n0" : Str)
structure Plain (cs : List Col) : Prop where
  l1 : 1 ≤ cs.length
  l3 : cs.length ≤ 3
  nd : (cs.map Prod.fst).Nodup
  col : ∀ c ∈ cs, ColOk c
theorem isWorth_len {z : Str} (h : isWorth z = true) : z.length ≤ 8 ∧ 1 ≤ z.length := by
  unfold isWorth at h
  simp only [Bool.and_eq_true, decide_eq_true_eq] at h
  omega
theorem isName_worth {z : Str} (h : isName z = true) : isWorth z = true := by
  unfold isName at h
  unfold isWorth
  simp only [Bool.and_eq_true, List.all_map, List.all_eq_true, Function.comp, id] at h ⊢
  exact ⟨h.1, fun s hs => by rw [h.2 s hs]; rfl⟩
theorem ColOk.fair {c : Col} (h : ColOk c) : c.1.length ≤ 1000 ∧ c.2.length ≤ 1000 ∧ ∀ z ∈ c.2, z.length ≤ 1000 :=
  ⟨by have := (isName_is h.name).2.1; rw [len_tl]; omega, by have := h.l12; omega, fun z hz => by have := isWorth_len (h.ws z hz).1; omega⟩
theorem Plain.fair {cs : List Col} (h : Plain cs) : Fair cs := ⟨by have := h.l3; omega, fun c hc => (h.col c hc).fair⟩
theorem Plain.few {cs : List Col} (h : Plain cs) : Few cs := ⟨h.l3, fun c hc => (h.col c hc).l12⟩
theorem fold_int : ∀ (l : List Nat) (a : Nat), ((l.foldl (· * ·) a : Nat) : Int) = (l.map fun n : Nat => (n : Int)).foldl (· * ·) (a : Int)
  | [], _ => rfl
  | x :: t, a => by rw [List.foldl_cons, List.map_cons, List.foldl_cons, fold_int t, Int.natCast_mul]
theorem kinds_prod (cs : List Col) : ((kinds cs).length : Int) = prod cs := by
  unfold kinds prod
  rw [kfold_len, List.length_singleton, Nat.one_mul, fold_int, List.map_map]; rfl
theorem areDiff_of {xs : List Str} (h : xs.Nodup) : areDiff xs = true := by
  unfold areDiff
  rw [List.all_map, List.all_eq_true]
  intro x hx
  show decide ((xs.count x : Int) = 1) = true
  have h1 := List.nodup_iff_count.mp h x
  have h2 := List.count_pos_iff.mpr hx
  exact decide_eq_true (by omega)
theorem areDiff_is {xs : List Str} (h : areDiff xs = true) : xs.Nodup := by
  unfold areDiff at h
  rw [List.all_map, List.all_eq_true] at h
  rw [List.nodup_iff_count]
  intro x
  by_cases hx : x ∈ xs
  · have := of_decide_eq_true (h x hx)
    omega
  · rw [List.count_eq_zero_of_not_mem hx]; omega
theorem ColOk.is {c : Col} (h : ColOk c) : isCol c = true := by
  unfold isCol
  have h1 := h.l1
  have h12 := h.l12
  rw [h.name, areDiff_of h.nd, decide_eq_true (show (1 : Int) ≤ c.2.length by omega), decide_eq_true (show (c.2.length : Int) ≤ 12 by omega)]
  simp only [Bool.and_true, Bool.true_and, List.all_map, List.all_eq_true]
  exact fun z hz => (h.ws z hz).1
theorem Plain.are {cs : List Col} (h : Plain cs) (hp : prod cs ≤ 12) : areCols cs = true := by
  unfold areCols
  have h1 := h.l1
  have h3 := h.l3
  rw [areDiff_of h.nd, kinds_prod, decide_eq_true hp, decide_eq_true (show (1 : Int) ≤ cs.length by omega), decide_eq_true (show (cs.length : Int) ≤ 3 by omega)]
  simp only [Bool.and_true, Bool.true_and, List.all_map, List.all_eq_true]
  exact fun c hc => (h.col c hc).is
/-! ### the read-back -/
theorem sign_ok {z : Str} (h : isWorth z = true) : ∀ c ∈ tl z, c ≠ 32 ∧ c ≠ 59 := by
  intro c hc
  unfold isWorth at h
  simp only [Bool.and_eq_true, List.all_map, List.all_eq_true, Function.comp, id] at h
  have := h.2 ⟨#[c]⟩ (by unfold signs; exact List.mem_map_of_mem hc)
  unfold inS at this
  rw [Bool.or_eq_true] at this
  have e1 : ∀ d ∈ lettersS.cps.toList, d ≠ 32 ∧ d ≠ 59 := by decide +kernel
  have e2 : ∀ d ∈ digitsS.cps.toList, d ≠ 32 ∧ d ≠ 59 := by decide +kernel
  rcases this with h | h
  · exact e1 c (of_decide_eq_true h)
  · exact e2 c (of_decide_eq_true h)
theorem ColOk.parts {c : Col} (h : ColOk c) : ∀ z ∈ c.1 :: c.2, isWorth z = true := fun z hz => by
  rcases List.mem_cons.mp hz with rfl | hz
  · exact isName_worth h.name
  · exact (h.ws z hz).1
theorem ColOk.split {c : Col} (h : ColOk c) : Txt.split (Txt.join " " (c.1 :: c.2)) " " = c.1 :: c.2 :=
  split_join (s := 32) (S := []) (by decide +kernel) (by decide +kernel) (by simp) fun p hp hm => (sign_ok (h.parts p hp) _ hm).1 rfl
theorem join_mem {y : Str} {ps : List Str} {c : Nat} (h : c ∈ tl (Txt.join y ps)) : c ∈ tl y ∨ ∃ p ∈ ps, c ∈ tl p := by
  rw [join_eq] at h
  induction ps with
  | nil => cases (show c ∈ ([] : List Nat) from h)
  | cons p t ih =>
    cases t with
    | nil => exact .inr ⟨p, by simp, h⟩
    | cons q r =>
      have e : tl (Str.join y (p :: q :: r)) = tl p ++ tl y ++ tl (Str.join y (q :: r)) := by
        show tl (p ++ y ++ Str.join y (q :: r)) = _
        rw [tl_append, tl_append]
      rw [e] at h
      simp only [List.mem_append] at h
      rcases h with (h | h) | h
      · exact .inr ⟨p, by simp, h⟩
      · exact .inl h
      · rcases ih h with h | ⟨z, hz, h⟩
        · exact .inl h
        · exact .inr ⟨z, List.mem_cons_of_mem _ hz, h⟩
theorem Plain.split {cs : List Col} (h : Plain cs) : Txt.split (menuText cs) "; " = cs.map fun c => Txt.join " " (c.1 :: c.2) := by
  unfold menuText
  refine split_join (s := 59) (S := [32]) (by decide +kernel) (by decide +kernel) (by have := h.l1; cases cs with
    | nil => simp at this
    | cons _ _ => simp) fun p hp hm => ?_
  obtain ⟨c, hc, rfl⟩ := List.mem_map.mp hp
  rcases join_mem hm with hm | ⟨z, hz, hm⟩
  · exact absurd hm (by decide +kernel)
  · exact (sign_ok ((h.col c hc).parts z hz) _ hm).2 rfl
theorem Plain.read {cs : List Col} (h : Plain cs) : textCols (menuText cs) = cs := by
  unfold textCols
  rw [h.split, List.map_map]
  refine (List.map_congr_left fun c hc => ?_).trans (List.map_id cs)
  show ((Txt.split (Txt.join " " (c.1 :: c.2)) " ").headD Str.empty, (Txt.split (Txt.join " " (c.1 :: c.2)) " ").drop 1) = c
  rw [(h.col c hc).split]; rfl
theorem ColOk.plen {c : Col} (h : ColOk c) : (Txt.join " " (c.1 :: c.2)).length ≤ 13013 := by
  have h1 := join_len (z := " ") (xs := c.1 :: c.2) (n := 1000) fun z hz => by have := isWorth_len (h.parts z hz); omega
  have h2 := h.l12
  have e : (" " : Str).length = 1 := by decide +kernel
  rw [e, List.length_cons] at h1
  omega
theorem Plain.tlen {cs : List Col} (h : Plain cs) : (menuText cs).length ≤ 100000 := by
  unfold menuText
  have h1 := join_len (z := "; ") (xs := cs.map fun c => Txt.join " " (c.1 :: c.2)) (n := 13013) fun z hz => by
    obtain ⟨c, hc, rfl⟩ := List.mem_map.mp hz
    exact (h.col c hc).plen
  have h2 := h.l3
  have e : ("; " : Str).length = 2 := by decide +kernel
  rw [e, List.length_map] at h1
  omega
/-! ### the promises -/
section
variable (K : PySem.W.Frag) (C : Str → Addr)
abbrev sp_law_product : Sp := F1 K C (fun cs : List Col => ∀ c ∈ cs, c.2.length ≤ 1000) prod
abbrev sp_law_menu : Sp := B1 K C (fun most : Int => 1 ≤ most) fun most (cs : List Col) => Plain cs ∧ prod cs ≤ most
abbrev sp_law_kinds : Sp := F1 K C (fun cs : List Col => Few cs) fun cs => (kinds cs).map TupK.mk
abbrev sp_law_menu_text : Sp := F1 K C (fun cs : List Col => Fair cs ∧ cs.length ≤ 3 ∧ ∀ c ∈ cs, c.2.length ≤ 12) menuText
abbrev sp_law_made_menu : Sp := F1 K C (fun cs : List Col => Plain cs ∧ prod cs ≤ 12) Menu.mk
end
end RG
namespace RG
open PySem PySem.Spec PyProof.Rows L2 StX RZ TL

def shapesL : List (List Int) := [[1], [2], [3], [5], [2, 2], [3, 2], [2, 3], [2, 2, 2], [1, 2], [2, 1, 2], [3, 2, 2], [12], [4, 3], [6, 2]]
theorem shapes_ok : ∀ s ∈ shapesL, 1 ≤ s.length ∧ s.length ≤ 3 ∧ ∀ n ∈ s, 1 ≤ n ∧ n ≤ 12 := by decide
/-- two of the words are numbers -/
def wordF (x : Int × Str) : Str := if x.1 % 5 = 4 then Str.ofString (toString x.1) else x.2
def WordsOk (L : List Str) : Prop := L.length = 12 ∧ L.Nodup ∧ ∀ z ∈ L, isWorth z = true ∧ z ≠ ("n0" : Str)
theorem words_eq {L : List Str} (h : L.length = 12) : (enum L).map wordF = (L.set 4 "4").set 9 "9" := by
  match L, h with
  | [a0, a1, a2, a3, a4, a5, a6, a7, a8, a9, a10, a11], _ =>
    have e4 : Str.ofString (toString (4 : Int)) = ("4" : Str) := by decide +kernel
    have e9 : Str.ofString (toString (9 : Int)) = ("9" : Str) := by decide +kernel
    have q : enum [a0, a1, a2, a3, a4, a5, a6, a7, a8, a9, a10, a11] = [(0, a0), (1, a1), (2, a2), (3, a3), (4, a4), (5, a5), (6, a6), (7, a7), (8, a8), (9, a9), (10, a10), (11, a11)] := rfl
    rw [q]
    simp only [List.map_cons, List.map_nil, wordF]
    rw [if_pos (show (4 : Int) % 5 = 4 by decide), if_pos (show (9 : Int) % 5 = 4 by decide), e4, e9]
    rfl
theorem words_ok {L : List Str} (h : NamesOk 12 ["0", "all", "3a"] L) : WordsOk ((enum L).map wordF) := by
  obtain ⟨h1, h2, h3⟩ := h
  have hl : L.length = 12 := by omega
  rw [words_eq hl]
  have k4 : isName "4" = false := by decide +kernel
  have k9 : isName "9" = false := by decide +kernel
  have kn : isName "n0" = false := by decide +kernel
  have n4 : ("4" : Str) ∉ L := fun hm => (h3 _ hm).elim (fun h => by rw [k4] at h; cases h) (fun h => absurd h (by decide +kernel))
  have n9 : ("9" : Str) ∉ L := fun hm => (h3 _ hm).elim (fun h => by rw [k9] at h; cases h) (fun h => absurd h (by decide +kernel))
  have ok : ∀ z ∈ L, isWorth z = true ∧ z ≠ ("n0" : Str) := fun z hz => by
    rcases h3 z hz with h | h
    · exact ⟨isName_worth h, fun e => by rw [e, kn] at h; cases h⟩
    · have : ∀ z ∈ (["0", "all", "3a"] : List Str), isWorth z = true ∧ z ≠ ("n0" : Str) := by decide +kernel
      exact this z h
  refine ⟨by rw [List.length_set, List.length_set, hl], nodup_set (nodup_set h2 n4) fun hm => ?_, fun z hz => ?_⟩
  · rcases List.mem_or_eq_of_mem_set hm with hm | hm
    · exact n9 hm
    · exact absurd hm (by decide +kernel)
  · rcases List.mem_or_eq_of_mem_set hz with hz | hz
    · rcases List.mem_or_eq_of_mem_set hz with hz | hz
      · exact ok z hz
      · rw [hz]; decide +kernel
    · rw [hz]; decide +kernel
/-- a run of the words -/
def runOf (L : List Str) (b n : Int) : List Str := (rng n).map fun j => L.getD ((b + j) % 12).toNat Str.empty
theorem run_at {L : List Str} (hl : L.length = 12) (b j : Int) : atI L ((b + j) % 12) = some (L.getD ((b + j) % 12).toNat Str.empty) := atI_getD Str.empty (by omega) (by omega)
theorem run_len {L : List Str} {b n : Int} : (runOf L b n).length = n.toNat := by unfold runOf; rw [List.length_map, rng_len]
theorem run_mem {L : List Str} (hl : L.length = 12) {b n : Int} : ∀ z ∈ runOf L b n, z ∈ L := by
  intro z hz
  obtain ⟨j, _, rfl⟩ := List.mem_map.mp hz
  have h := run_at hl b j
  obtain ⟨x, hx, hm⟩ := atI_mem (xs := L) (n := (b + j) % 12) (by omega) (by omega)
  rw [h] at hx
  cases hx
  exact hm
theorem run_nd {L : List Str} (h : WordsOk L) {b n : Int} (hn : n ≤ 12) : (runOf L b n).Nodup := by
  obtain ⟨hl, hd, _⟩ := h
  unfold runOf rng
  rw [List.map_map, List.Nodup, List.pairwise_map]
  refine List.Pairwise.imp_of_mem (fun {i j} hi hj hij e => ?_) List.pairwise_lt_range
  rw [List.mem_range] at hj
  have h1 : ((b + (i : Int)) % 12).toNat < L.length := by omega
  have h2 : ((b + (j : Int)) % 12).toNat < L.length := by omega
  have e2 : L[((b + (i : Int)) % 12).toNat] = L[((b + (j : Int)) % 12).toNat] := by
    have e' : L.getD ((b + (i : Int)) % 12).toNat Str.empty = L.getD ((b + (j : Int)) % 12).toNat Str.empty := e
    rw [List.getD_eq_getElem?_getD, List.getD_eq_getElem?_getD, List.getElem?_eq_getElem h1, List.getElem?_eq_getElem h2] at e'
    exact e'
  have := (List.getElem_inj hd).mp e2
  omega
theorem run_col {L : List Str} (h : WordsOk L) {b n : Int} (h1 : 1 ≤ n) (hn : n ≤ 12) {nmz : Str} (hN : isName nmz = true) {ws : List Str} (hp : ws.Perm (runOf L b n)) : ColOk (nmz, ws) :=
  ⟨hN, by show 1 ≤ ws.length; rw [hp.length_eq, run_len]; omega, by show ws.length ≤ 12; rw [hp.length_eq, run_len]; omega, hp.nodup_iff.mpr (run_nd h hn), fun z hz => h.2.2 z (run_mem h.1 z (hp.mem_iff.mp hz))⟩
/-- each column a worth shorter -/
def short (c : Col) : Col := (c.1, c.2.take (if ((c.2.length : Int) - 1) > 1 then (c.2.length : Int) - 1 else 1).toNat)
theorem cutG_to {ω : Type} {xs : List ω} {k : Int} (h : 0 ≤ k) : cutG xs none (some k) = xs.take k.toNat := by
  unfold cutG HT.sIx
  simp only [if_neg (show ¬ k < 0 by omega), List.drop_zero, Nat.sub_zero]
  rw [← List.take_eq_take_min]
theorem short_len (c : Col) : (short c).2.length = min (if ((c.2.length : Int) - 1) > 1 then (c.2.length : Int) - 1 else 1).toNat c.2.length := by unfold short; rw [List.length_take]
theorem ColOk.short {c : Col} (h : ColOk c) : ColOk (short c) := by
  have h1 := h.l1
  have h12 := h.l12
  have e := short_len c
  refine ⟨h.name, ?_, ?_, List.Nodup.sublist (List.take_sublist _ _) h.nd, fun z hz => h.ws z (List.mem_of_mem_take hz)⟩
  · rw [e]; split <;> omega
  · rw [e]; split <;> omega
theorem Plain.short {cs : List Col} (h : Plain cs) : Plain (cs.map short) :=
  ⟨by rw [List.length_map]; exact h.l1, by rw [List.length_map]; exact h.l3, by rw [List.map_map]; exact h.nd, fun c hc => by obtain ⟨d, hd, rfl⟩ := List.mem_map.mp hc; exact (h.col d hd).short⟩
def msr (cs : List Col) : Nat := (cs.map fun c => c.2.length).sum
theorem prod_cons {c : Col} {cs : List Col} : prod (c :: cs) = c.2.length * prod cs := by
  have : ∀ (l : List Int) (a : Int), l.foldl (· * ·) a = a * l.foldl (· * ·) 1 := by
    intro l
    induction l with
    | nil => intro a; simp
    | cons x l ih => intro a; rw [List.foldl_cons, List.foldl_cons, ih (a * x), ih (1 * x), Int.mul_assoc, Int.one_mul]
  unfold prod
  rw [List.map_cons, List.foldl_cons, this, Int.one_mul]
theorem short_msr : ∀ {cs : List Col}, (∀ c ∈ cs, 1 ≤ c.2.length) → msr (cs.map short) ≤ msr cs ∧ (1 < prod cs → msr (cs.map short) < msr cs)
  | [], _ => ⟨Nat.le_refl _, fun h => absurd h (by decide)⟩
  | c :: cs, h => by
    have h1 := h c (by simp)
    have e := short_len c
    obtain ⟨i1, i2⟩ := short_msr (cs := cs) fun d hd => h d (List.mem_cons_of_mem _ hd)
    have e1 : msr ((c :: cs).map short) = (short c).2.length + msr (cs.map short) := rfl
    have e2 : msr (c :: cs) = c.2.length + msr cs := rfl
    have hs : (short c).2.length ≤ c.2.length := by rw [e]; omega
    refine ⟨by rw [e1, e2]; omega, fun hp => ?_⟩
    rw [e1, e2]
    by_cases hc : c.2.length = 1
    · rw [prod_cons, hc] at hp
      have := i2 (by simpa using hp)
      omega
    · have : (short c).2.length < c.2.length := by rw [e]; split <;> omega
      omega
end RG
namespace RG
open PySem PySem.Spec PyProof.Rows L2 StX RZ TL

/-! ### kinds -/
theorem kstep_nd {c : Col} (hc : c.2.Nodup) : ∀ {found : List (List Str)}, found.Nodup → (kstep found c).Nodup
  | [], _ => List.nodup_nil
  | k :: t, h => by
    have ih := kstep_nd hc (List.nodup_cons.mp h).2
    unfold kstep at ih ⊢
    rw [List.flatMap_cons, List.nodup_append]
    refine ⟨?_, ih, fun a ha b hb e => ?_⟩
    · rw [List.Nodup, List.pairwise_map]
      exact List.Pairwise.imp (fun {x y} hxy e => hxy (by have := (List.append_inj' e rfl).2; simpa using this)) hc
    · obtain ⟨z, _, rfl⟩ := List.mem_map.mp ha
      obtain ⟨k', hk', hb⟩ := List.mem_flatMap.mp hb
      obtain ⟨z', _, rfl⟩ := List.mem_map.mp hb
      have := (List.append_inj' e rfl).1
      exact (List.nodup_cons.mp h).1 (this ▸ hk')
theorem kinds_nd {cs : List Col} (h : ∀ c ∈ cs, c.2.Nodup) : (kinds cs).Nodup := by
  unfold kinds
  have : ∀ (cs : List Col) (f : List (List Str)), (∀ c ∈ cs, c.2.Nodup) → f.Nodup → (cs.foldl kstep f).Nodup := by
    intro cs
    induction cs with
    | nil => intro f _ hf; exact hf
    | cons c cs ih => intro f h hf; exact ih _ (fun d hd => h d (List.mem_cons_of_mem _ hd)) (kstep_nd (h c (by simp)) hf)
  exact this cs _ h (by simp)
theorem kind_worth {cs : List Col} {k : List Str} (h : k ∈ kinds cs) : ∀ z ∈ k, ∃ c ∈ cs, z ∈ c.2 := by
  have : ∀ (cs : List Col) (f : List (List Str)) (P : Str → Prop), (∀ k ∈ f, ∀ z ∈ k, P z) → (∀ c ∈ cs, ∀ z ∈ c.2, P z) → ∀ k ∈ cs.foldl kstep f, ∀ z ∈ k, P z := by
    intro cs
    induction cs with
    | nil => intro f P hf _; exact hf
    | cons c cs ih =>
      intro f P hf hc
      refine ih _ P (fun k hk z hz => ?_) fun d hd => hc d (List.mem_cons_of_mem _ hd)
      obtain ⟨k', hk', hk⟩ := List.mem_flatMap.mp hk
      obtain ⟨z', hz', rfl⟩ := List.mem_map.mp hk
      rcases List.mem_append.mp hz with hz | hz
      · exact hf k' hk' z hz
      · rw [List.mem_singleton.mp hz]; exact hc c (by simp) z' hz'
  exact this cs [[]] (fun z => ∃ c ∈ cs, z ∈ c.2) (fun k hk z hz => by simp at hk; subst hk; cases hz) (fun c hc z hz => ⟨c, hc, hz⟩) k h
/-! ### menus asked -/
theorem eqv_list {m : Menu} {k : TupK} : (((kindsT m).l.map PyD.dat).map fun z => PyData.eqv z (PyD.dat k)) = (kindsT m).l.map fun y => decide (y = k) := by
  rw [List.map_map]
  exact List.map_congr_left fun y _ => eqv_dat
theorem idx_true {ω : Type} [DecidableEq ω] {x : ω} : ∀ {L : List ω} {i : Nat}, L.Nodup → L[i]? = some x → (L.map fun y => decide (y = x)).idxOf true = i
  | [], i, _, h => by simp at h
  | a :: t, 0, _, h => by
    simp at h
    subst h
    simp
  | a :: t, i + 1, hn, h => by
    have hm : x ∈ t := List.mem_of_getElem? (by simpa using h)
    have hne : ¬ a = x := fun e => (List.nodup_cons.mp hn).1 (e ▸ hm)
    rw [List.map_cons, decide_eq_false hne, List.idxOf_cons]
    show (if (false == true) = true then 0 else (t.map fun y => decide (y = x)).idxOf true + 1) = _
    rw [if_neg (by decide), idx_true (List.nodup_cons.mp hn).2 (by simpa using h)]
theorem kindsT_nd {m : Menu} (h : ∀ c ∈ m.cols, c.2.Nodup) : (kindsT m).l.Nodup := by
  unfold kindsT
  rw [List.Nodup, List.pairwise_map]
  exact List.Pairwise.imp (fun {a b} hab e => hab (by cases e; rfl)) (kinds_nd h)
theorem place_all {m : Menu} (h : ∀ c ∈ m.cols, c.2.Nodup) : ((kindsT m).l.map fun k => placeOf m (PyD.dat k)) = rng ((kindsT m).l.length : Int) := by
  refine List.ext_getElem? fun i => ?_
  by_cases hi : i < (kindsT m).l.length
  · rw [List.getElem?_map, List.getElem?_eq_getElem hi, rng_at (by omega)]
    show some (placeOf m (PyD.dat (kindsT m).l[i])) = _
    unfold placeOf
    rw [eqv_list, idx_true (kindsT_nd h) (List.getElem?_eq_getElem hi)]
  · rw [List.getElem?_eq_none (by rw [List.length_map]; omega), List.getElem?_eq_none (by rw [rng_len]; omega)]
theorem holds_dat {m : Menu} {k : TupK} : holds m (PyD.dat k) = decide (k ∈ (kindsT m).l) := by
  unfold holds
  have e : isTupD (PyD.dat k) = true := rfl
  rw [e, Bool.true_and, List.any_map]
  have : ((kindsT m).l.any (id ∘ fun k_1 => PyData.eqv (PyD.dat k) (PyD.dat k_1))) = (kindsT m).l.any fun y => decide (k = y) := by
    congr 1
    funext y
    exact eqv_dat
  rw [this]
  rw [Bool.eq_iff_iff]
  simp
theorem holds_no {m : Menu} {d : PyData} (h : ∀ k ∈ (kindsT m).l, PyData.eqv d (PyD.dat k) = false) : holds m d = false := by
  unfold holds
  rw [List.any_map]
  have : (kindsT m).l.any (id ∘ fun k => PyData.eqv d (PyD.dat k)) = false := by
    rw [List.any_eq_false]
    intro k hk
    show ¬ PyData.eqv d (PyD.dat k) = true
    rw [h k hk]; exact Bool.false_ne_true
  rw [this, Bool.and_false]
theorem in_place {m : Menu} {k : TupK} (h : k ∈ (kindsT m).l) : holds m (PyD.dat k) = true ∧ true ∈ (((kindsT m).l.map PyD.dat).map fun z => PyData.eqv z (PyD.dat k)) := by
  refine ⟨by rw [holds_dat]; exact decide_eq_true h, ?_⟩
  rw [eqv_list]
  exact List.mem_map.mpr ⟨k, h, decide_eq_true rfl⟩
/-- what is no kind -/
def strangeL (k0 : TupK) (z0 : Str) (n : Nat) : List PyData :=
  [PyD.dat (Tup.mk (k0.l.drop 1)), PyD.dat (Tup.mk (k0.l ++ [("x" : Str)])), PyD.dat k0.l, .none, .int 3, .str z0, PyD.dat (Tup.mk (List.replicate n ("n0" : Str))), .tuple [.int 1], .tuple [.list []]]
theorem strange_no {cs : List Col} (h : Plain cs) {k0 : TupK} (hk0 : k0 ∈ (kindsT ⟨cs⟩).l) (z0 : Str) : ∀ d ∈ strangeL k0 z0 cs.length, d.depth ≤ 64 ∧ holds ⟨cs⟩ d = false := by
  have hlen : ∀ k ∈ (kindsT ⟨cs⟩).l, k.l.length = cs.length := fun k hk => by
    obtain ⟨y, hy, rfl⟩ := List.mem_map.mp hk
    exact kind_len hy
  have h1 := h.l1
  have h0 := hlen k0 hk0
  have dd : ∀ {δ : Type} [DecidableEq δ] [PyD δ] (x : δ), PyD.dep δ ≤ 64 → (PyD.dat x).depth ≤ 64 := fun x hx => Nat.le_trans (PyD.depth x) hx
  have other : ∀ t : TupK, t ∉ (kindsT ⟨cs⟩).l → holds ⟨cs⟩ (PyD.dat (Tup.mk t.l)) = false := fun t ht => (show holds ⟨cs⟩ (PyD.dat (Tup.mk t.l)) = holds ⟨cs⟩ (PyD.dat t) from rfl).trans (by rw [holds_dat]; exact decide_eq_false ht)
  intro d hd
  unfold strangeL at hd
  simp only [List.mem_cons, List.not_mem_nil, or_false] at hd
  rcases hd with rfl | rfl | rfl | rfl | rfl | rfl | rfl | rfl | rfl
  · refine ⟨dd (δ := Tup Str) _ (by decide), other ⟨k0.l.drop 1⟩ fun hm => ?_⟩
    have := hlen _ hm
    simp only [List.length_drop] at this
    omega
  · refine ⟨dd (δ := Tup Str) _ (by decide), other ⟨k0.l ++ [("x" : Str)]⟩ fun hm => ?_⟩
    have := hlen _ hm
    simp only [List.length_append, List.length_singleton] at this
    omega
  · exact ⟨dd _ (by decide), rfl⟩
  · exact ⟨by decide, rfl⟩
  · exact ⟨by decide, rfl⟩
  · exact ⟨by simp [PyData.depth], rfl⟩
  · refine ⟨dd (δ := Tup Str) _ (by decide), other ⟨List.replicate cs.length ("n0" : Str)⟩ fun hm => ?_⟩
    obtain ⟨y, hy, e⟩ := List.mem_map.mp hm
    have e' : y = List.replicate cs.length ("n0" : Str) := by injection e
    have hin : ("n0" : Str) ∈ y := by rw [e', List.mem_replicate]; exact ⟨by omega, rfl⟩
    obtain ⟨c, hc, hz⟩ := kind_worth hy _ hin
    exact ((h.col c hc).ws _ hz).2 rfl
  · refine ⟨by decide, holds_no fun k _ => ?_⟩
    show PyData.eqv (.tuple [.int 1]) (.tuple (k.l.map PyD.dat)) = false
    cases k.l with
    | nil => rfl
    | cons s t => simp [PyData.eqv, PyData.eqvAll, PyD.dat]
  · refine ⟨by decide, holds_no fun k _ => ?_⟩
    show PyData.eqv (.tuple [.list []]) (.tuple (k.l.map PyD.dat)) = false
    cases k.l with
    | nil => rfl
    | cons s t => simp [PyData.eqv, PyData.eqvAll, PyD.dat]
theorem kinds_ne {cs : List Col} (h : Plain cs) : (kinds cs) ≠ [] := by
  intro e
  have h1 := kinds_prod cs
  rw [e] at h1
  have : ∀ cs : List Col, (∀ c ∈ cs, 1 ≤ c.2.length) → 1 ≤ prod cs := by
    intro cs
    induction cs with
    | nil => intro _; decide
    | cons c cs ih =>
      intro h
      rw [prod_cons]
      have a := h c (by simp)
      have b := ih fun d hd => h d (List.mem_cons_of_mem _ hd)
      have : (1 : Int) * 1 ≤ c.2.length * prod cs := Int.mul_le_mul (by omega) b (by decide) (by omega)
      omega
  have := this cs fun c hc => (h.col c hc).l1
  rw [← h1] at this
  exact absurd this (by decide)
abbrev sp_law_menu_right (K : PySem.W.Frag) (C : Str → Addr) : Sp := B2 K C (fun (m : Menu) (cs : List Col) => Plain cs ∧ prod cs ≤ 12 ∧ m.cols = cs) fun _ _ (b : Bool) => b = true
section
variable {α : Type} [Py α] {W : Wd} {M : List Addr} {σ : L2.St} {H H' : Hp} {tl : TE} {D : Ends} {g : TG} {ts : TS} {v : V}
/-- a loop over a list that is one of several -/
theorem for_r {P : List α → Prop} (ok : Ok W M H) (h : EvR W M tl σ H P) (q : ∀ xs v H', P xs → Ex W [] H H' → Ok W M H' → Rep W M H' v xs → tFor (iList W.K (fun _ H Q => Q v H)) g ts D σ H') : tFor (iList W.K tl) g ts D σ H :=
  h H Ex.refl ok _ fun v xs H' px e r => q xs v H' px e (ok.ex e) r
theorem ev_inM {ta tb : TE} {m : Menu} {d : PyData} (ha : Ev W M ta σ H d) (hb : Ev W M tb σ H m) (h1 : (kinds m.cols).length ≤ 1000) (h2 : d.depth ≤ 64) : Ev W M (tOp (rInOwn (W.C "Menu") (sp_Menu_contains W.K W.C) false) ta tb) σ H (holds m d) :=
  (ev_own (f := holds) (neg := false) ha hb ⟨h1, h2⟩).is (if_neg Bool.false_ne_true)
theorem ev_val {x : α} (r : Rep W M H v x) : Ev W M (fun _ H Q => Q v H) σ H x := fun H1 e ok Q q => q v H1 Ex.refl (r.up e)
end
end RG
namespace RG
open PySem PySem.Spec PyProof.Rows L2 StX RZ TL

/-! ### plains that are near -/
structure NearOk (cs cs' : List Col) : Prop where
  len : cs'.length = cs.length
  col : ∀ c ∈ cs', ColOk c
  pr : prod cs' = prod cs
theorem map_set_same {ω δ : Type} {f : ω → δ} {c c' : ω} : ∀ {cs : List ω} {i : Nat}, cs[i]? = some c → f c' = f c → (cs.set i c').map f = cs.map f
  | [], _, _, _ => rfl
  | a :: t, 0, h, e => by simp at h; subst h; rw [List.set_cons_zero, List.map_cons, List.map_cons, e]
  | a :: t, i + 1, h, e => by rw [List.set_cons_succ, List.map_cons, List.map_cons, map_set_same (by simpa using h) e]
theorem prod_set {cs : List Col} {i : Nat} {c c' : Col} (h : cs[i]? = some c) (e : c'.2.length = c.2.length) : prod (cs.set i c') = prod cs := by
  unfold prod
  rw [map_set_same h (by rw [e])]
theorem prod_perm {cs cs' : List Col} (h : cs.Perm cs') : prod cs = prod cs' := by
  induction h with
  | nil => rfl
  | cons c _ ih => rw [prod_cons, prod_cons, ih]
  | swap a b t => rw [prod_cons, prod_cons, prod_cons, prod_cons, ← Int.mul_assoc, ← Int.mul_assoc, Int.mul_comm (b.2.length : Int)]
  | trans _ _ i1 i2 => rw [i1, i2]
theorem NearOk.set {cs cs' : List Col} (h : NearOk cs cs') {i : Nat} {c c' : Col} (hc : cs'[i]? = some c) (ok : ColOk c') (e : c'.2.length = c.2.length) : NearOk cs (cs'.set i c') :=
  ⟨by rw [List.length_set]; exact h.len, fun d hd => (List.mem_or_eq_of_mem_set hd).elim (h.col d) fun e => e ▸ ok, by rw [prod_set hc e]; exact h.pr⟩
theorem NearOk.rev {cs cs' : List Col} (h : NearOk cs cs') : NearOk cs cs'.reverse :=
  ⟨by rw [List.length_reverse]; exact h.len, fun d hd => h.col d (List.mem_reverse.mp hd), by rw [← h.pr]; exact prod_perm (List.reverse_perm cs')⟩
theorem Plain.near {cs : List Col} (h : Plain cs) : NearOk cs cs := ⟨rfl, h.col, rfl⟩
theorem NearOk.plain {cs cs' : List Col} (h : NearOk cs cs') (hp : Plain cs) (hn : (cs'.map Prod.fst).Nodup) : Plain cs' := ⟨by rw [h.len]; exact hp.l1, by rw [h.len]; exact hp.l3, hn, h.col⟩
theorem ColOk.rev {c : Col} (h : ColOk c) : ColOk (c.1, c.2.reverse) :=
  ⟨h.name, by show 1 ≤ c.2.reverse.length; rw [List.length_reverse]; exact h.l1, by show c.2.reverse.length ≤ 12; rw [List.length_reverse]; exact h.l12, (List.reverse_perm c.2).nodup_iff.mpr h.nd, fun z hz => h.ws z (List.mem_reverse.mp hz)⟩
theorem ColOk.other {c : Col} (h : ColOk c) : ColOk (cutS c.1 none (some 7) ++ "q", c.2) := by
  have hn := isName_is h.name
  have e : tl (cutS c.1 none (some 7) ++ ("q" : Str)) = (tl c.1).take 7 ++ [113] := by
    rw [tl_append]
    have : tl (cutS c.1 none (some 7)) = (tl c.1).take 7 := by
      unfold cutS HT.sIx
      rw [tl_mk, len_tl]
      simp only [if_neg (show ¬ (7 : Int) < 0 by decide), List.drop_zero, Nat.sub_zero]
      rw [← List.take_eq_take_min]; rfl
    rw [this]; rfl
  refine ⟨isName_of (by rw [e]; simp) (by rw [e, List.length_append, List.length_take, List.length_singleton]; omega) fun d hd => ?_, h.l1, h.l12, h.nd, h.ws⟩
  rw [e] at hd
  rcases List.mem_append.mp hd with hd | hd
  · exact hn.2.2 d (List.mem_of_mem_take hd)
  · rw [List.mem_singleton.mp hd]; unfold isL; omega
abbrev sp_law_near (K : PySem.W.Frag) (C : Str → Addr) : Sp := B1 K C (fun cs : List Col => Plain cs) NearOk
end RG
namespace RG
open PySem PySem.Spec PyProof.Rows L2 StX RZ TL

/-! ### data without lists -/
class Fz (α : Type) [Py α] where
  fz : ∀ {W : Wd} {G G' : Hp} {v : V} {x : α}, (∀ a o, G a = some o → (∀ xs, o ≠ .lst xs) → G' a = some o) → Py.rep W G v x → Py.rep W G' v x
instance : Fz Str := ⟨fun _ h => h⟩
instance : Fz Int := ⟨fun _ h => h⟩
instance : Fz TupK := ⟨fun q ⟨a, e, h⟩ => ⟨a, e, q _ _ h fun xs z => nomatch z⟩⟩
theorem fz_rd {G G' : Hp} (q : ∀ a o, G a = some o → (∀ xs, o ≠ .lst xs) → G' a = some o) {a : Addr} {vs : List V} (h : Rd G a (.tup vs)) : Rd G' a (.tup vs) :=
  h.elim (fun h => .inl (q _ _ h fun xs z => nomatch z)) fun ⟨o, h⟩ => .inr ⟨o, q _ _ h fun xs z => nomatch z⟩
instance {α : Type} [Py α] [Fz α] : Fz (Tup α) := ⟨fun q ⟨a, vs, e, h, p⟩ => ⟨a, vs, e, fz_rd q h, paired_mono (fun _ _ r => Fz.fz q r) p⟩⟩
instance {α β : Type} [Py α] [Py β] [Fz α] [Fz β] : Fz (α × β) := ⟨fun q ⟨a, v1, v2, e, h, r1, r2⟩ => ⟨a, v1, v2, e, fz_rd q h, Fz.fz q r1, Fz.fz q r2⟩⟩
instance : Fz Menu := ⟨fun q ⟨a, dx, v1, o, p, vs, e, h1, h2, h3, h4, h5, h6⟩ => ⟨a, dx, v1, o, p, vs, e, q _ _ h1 (fun xs z => nomatch z), Fz.fz q h2, q _ _ h3 (fun xs z => nomatch z), h4, h5, paired_mono (fun _ _ r => Fz.fz q r) h6⟩⟩
section
variable {α β : Type} [Py α] [Py β] {W : Wd} {M N : List Addr} {σ : L2.St} {H H' : Hp} {ta tb te : TE} {v : V} {L : Addr} {E : XK} {D : Ends} {g : TG}
theorem Rep.fz [Fz α] {x : α} (h : Rep W [] H v x) (hN : ∀ a ∈ N, ∃ xs, H a = some (.lst xs)) : Rep W N H v x :=
  Fz.fz (fun a o ha hne => by
    obtain ⟨h1, _, h3⟩ := cut_some.mp ha
    refine cut_some.mpr ⟨h1, fun hm => ?_, h3⟩
    obtain ⟨xs, hx⟩ := hN a hm
    rw [h3] at hx
    cases hx
    exact hne xs rfl) h
theorem own_fz {zs : List OCol} (h : Rep W [] H (.ref L) zs) (hL : L ∉ N) (hz : ∀ z ∈ zs, z.a ∉ N) (hN : ∀ a ∈ N, ∃ xs, H a = some (.lst xs)) : Rep W N H (.ref L) zs := by
  obtain ⟨us, hh, nb, nm, pp, no⟩ := own_out h
  refine rep_lst hh nb hL ?_
  have : ∀ {us : List V} {zs : List OCol}, Paired (Rep W [L] H) us zs → (∀ z ∈ zs, z.a ∉ N) → Paired (Rep W N H) us zs := by
    intro us zs hp
    induction hp with
    | nil => intro _; exact .nil
    | @cons u z us zs r _ ih =>
      intro hz
      refine .cons ?_ (ih fun z h => hz z (List.mem_cons_of_mem _ h))
      obtain ⟨T, rfl, t1, t2, t3, h3, h4, h5⟩ := r.ocol
      refine rep_ocol t1 t2 (fun hm => ?_) h3 h4 (hz z (by simp))
      obtain ⟨xs, hx⟩ := hN T hm
      rcases t1 with t1 | ⟨o, t1⟩
      · rw [t1] at hx; cases hx
      · rw [t1] at hx; cases hx
  exact this pp hz
theorem evr_lst2 {P R : α → Prop} (ha : EvR W M ta σ H P) (hb : EvR W M tb σ H R) : EvR W M (tLst (tCons ta (tCons tb tNil))) σ H (fun l => ∃ x y, l = [x, y] ∧ P x ∧ R y) := fun H1 e ok Q q =>
  ha H1 e ok _ fun v x H2 px e2 r => hb H2 (e.trans e2) (ok.ex e2) _ fun u y H3 py e3 r3 =>
    ⟨by show 2 ≤ sizeLine; decide, fun p hp => q _ [x, y] _ ⟨x, y, rfl, px, py⟩ ((e2.trans e3).trans (Ex.new hp)) (rep_lst upd_same (((ok.ex e2).ex e3).new_b hp) (((ok.ex e2).ex e3).new_M hp) (.cons ((r.up e3).up (Ex.new hp)) (.cons (r3.up (Ex.new hp)) .nil)))⟩
/-- xs = [a, b], the new list's address told -/
theorem s_lst2 {x y : α} {k : Nat} (ok : Ok W M H) (ha : Ev W M ta σ H x) (hb : Ev W M tb σ H y) (q : ∀ v u p H', Ex W [] H H' → Ok W M H' → Rep W M H' v x → Rep W M H' u y → H' p = none → D.nx (σ.set k (some (.ref p))) (upd H' p (.lst [v, u]))) : tAsg (tLst (tCons ta (tCons tb tNil))) (gName k) D σ H :=
  ha H Ex.refl ok _ fun v H2 e2 r => hb H2 e2 (ok.ex e2) _ fun u H3 e3 r3 => ⟨by show 2 ≤ sizeLine; decide, fun p hp => q v u p H3 (e2.trans e3) ((ok.ex e2).ex e3) (r.up e3) r3 hp⟩
theorem Rep.colsLQ {cs : List Col} (r : Rep W M H v (cs.map toT)) : Rep W M H v (Sq.mk (cs.map toQ)) := by
  have h : Rep W M H v ((cs.map toT).map fun c : ColT => ((c.1, ⟨c.2.l⟩) : ColQ)) := r.lmap (f := fun c : ColT => ((c.1, ⟨c.2.l⟩) : ColQ)) fun _ _ r => r.pmap fun _ r => r.toSqT
  rw [List.map_map] at h
  exact h.toSq
/-- Menu(columns) -/
theorem ev_menu {cs : List Col} (h : Ev W M ta σ H (Sq.mk (cs.map toQ))) (hP : Plain cs) (hp : prod cs ≤ 12) : Ev W M (tMake (W.C "Menu") (sp_Menu_init W.K W.C) [] E (tCons ta tNil)) σ H (Menu.mk cs) :=
  (ev_make (x := Sq.mk (cs.map toQ)) (f := fun cs : Sq ColQ => Menu.mk (cs.l.map unQ)) h ⟨by show Fair ((cs.map toQ).map unQ); rw [unQ_map]; exact hP.fair, by show areCols ((cs.map toQ).map unQ) = true; rw [unQ_map]; exact hP.are hp⟩).is (by show Menu.mk ((cs.map toQ).map unQ) = _; rw [unQ_map])
/-- Menu.read(text) -/
theorem ev_read {cs : List Col} (h : Ev W M ta σ H (menuText cs)) (hP : Plain cs) (hp : prod cs ≤ 12) : Ev W M (ClX.tCMeth (W.C "Menu") (sp_Menu_read W.K W.C) E (tC (.ref (W.C "Menu"))) (tCons ta tNil)) σ H (Menu.mk cs) := fun H1 e ok Q q =>
  ⟨rfl, h H1 e ok _ fun v H2 e2 r => by
    cases (show v = .str _ from r)
    refine ⟨W, M, menuText cs, rfl, rfl, rfl, ok.ex e2, hP.tlen, fun p hp' => ?_, by rw [hP.read]; exact hP.fair, by rw [hP.read]; exact hP.are hp, fun r H3 e3 rr => q r H3 (e2.trans e3) (by rw [hP.read] at rr; exact rr)⟩
    rw [hP.split] at hp'
    obtain ⟨c, hc, rfl⟩ := List.mem_map.mp hp'
    refine ⟨Nat.le_trans (hP.col c hc).plen (by decide), ?_⟩
    rw [(hP.col c hc).split]
    exact fun z => nomatch z⟩
theorem colsT_eq {a b : List Col} : decide (colsT ⟨a⟩ = colsT ⟨b⟩) = decide (a = b) := by
  by_cases h : a = b
  · subst h; simp
  · rw [decide_eq_false h]
    refine decide_eq_false fun e => h ?_
    unfold colsT at e
    have e2 : a.map toT = b.map toT := by injection e
    have : ∀ {a b : List Col}, a.map toT = b.map toT → a = b := by
      intro a
      induction a with
      | nil => intro b h; cases b with
        | nil => rfl
        | cons _ _ => simp at h
      | cons x t ih =>
        intro b h
        cases b with
        | nil => simp at h
        | cons y s =>
          rw [List.map_cons, List.map_cons] at h
          injection h with h1 h2
          rw [ih h2]
          obtain ⟨x1, x2⟩ := x
          obtain ⟨y1, y2⟩ := y
          unfold toT at h1
          injection h1 with h3 h4
          injection h4 with h5
          rw [show x1 = y1 from h3, show x2 = y2 from h5]
    exact this e2
end
abbrev sp_lawE (K : PySem.W.Frag) : Sp := fun vs H Q _ => ∃ (a : Addr) (ns : List Int), vs = [.ref a] ∧ SqL K H a (ns.map V.int) ∧ ns.length ≤ 63 ∧ ∀ H', Q (.bl true) H'
abbrev sp_law (K : PySem.W.Frag) (_ : Str → Addr) : Sp := sp_lawE K
end RG
namespace RG
open PySem PySem.Spec PyProof.Rows L2 StX RZ TL
instance : Fyz Menu := ⟨fun q ⟨a, dx, v1, o, p, vs, e, h1, h2, h3, h4, h5, h6⟩ => ⟨a, dx, v1, o, p, vs, e, q _ _ h1 fy_ins, Fyz.fy q h2, q _ _ h3 fy_frz, h4, h5, paired_mono (fun _ _ r => Fyz.fy q r) h6⟩⟩
/-! ### tables, in plain Lean -/
def num (cs : List Col) (ns : List Int) (k : List Str) : Int := (((kinds cs).zip ns).lookup k).getD 0
def posK (cs : List Col) (ns : List Int) : List (List Str) := (kinds cs).filter fun k => decide (num cs ns k > 0)
def there (cs : List Col) (ns : List Int) : List TupK := (posK cs ns).map TupK.mk
def strI (n : Int) : Str := Str.ofString (toString n)
def partS (n : Int) (k : List Str) : Str := Txt.join " " (strI n :: k)
def tabParts (cs : List Col) (ns : List Int) : List Str := (posK cs ns).map fun k => partS (num cs ns k) k
def tabText (cs : List Col) (ns : List Int) : Str := if (tabParts cs ns).length > 0 then Txt.join ", " (tabParts cs ns) else "nothing"
structure Table where
  cols : List Col
  ns : List Int
  deriving DecidableEq
structure OkT (cs : List Col) (ns : List Int) : Prop where
  pl : Plain cs
  p12 : prod cs ≤ 12
  len : ns.length = (kinds cs).length
  nn : ∀ n ∈ ns, 0 ≤ n
instance : Py Table where
  rep W H v t := ∃ a dx vm vc vt, v = .ref a ∧ H a = some (.ins (W.C "Table") dx [("own_menu", vm), ("own_counts", vc), ("own_there", vt)]) ∧ Py.rep W H vm (Menu.mk t.cols) ∧ Py.rep W H vc (Tup.mk t.ns) ∧ Py.rep W H vt (Tup.mk (there t.cols t.ns))
  mono l h := by
    obtain ⟨a, dx, vm, vc, vt, e, h1, h2, h3, h4⟩ := h
    exact ⟨a, dx, vm, vc, vt, e, l.ex _ _ h1, Py.mono l h2, Py.mono l h3, Py.mono l h4⟩
instance : PyO Table where
  cn := "Table"
  fns := ["own_menu", "own_counts", "own_there"]
  ins h := by
    obtain ⟨a, dx, vm, vc, vt, e, h1, _⟩ := h
    exact ⟨a, dx, _, e, h1, rfl⟩
instance : Fyz Table := ⟨fun q ⟨a, dx, vm, vc, vt, e, h1, h2, h3, h4⟩ => ⟨a, dx, vm, vc, vt, e, q _ _ h1 fy_ins, Fyz.fy q h2, Fyz.fy q h3, Fyz.fy q h4⟩⟩
section
variable {cs : List Col} {ns : List Int} {k : List Str}
theorem OkT.k12 (h : OkT cs ns) : (kinds cs).length ≤ 12 := by have := kinds_prod cs; have := h.p12; omega
theorem OkT.nd (h : OkT cs ns) : (kinds cs).Nodup := kinds_nd fun c hc => (h.pl.col c hc).nd
theorem OkT.n12 (h : OkT cs ns) : ns.length ≤ 12 := by have := h.k12; have := h.len; omega
theorem lookup_zip {ω : Type} [BEq ω] [LawfulBEq ω] : ∀ {l : List ω} {ns : List Int}, l.Nodup → ns.length = l.length → l.map (fun k => ((l.zip ns).lookup k).getD 0) = ns
  | [], [], _, _ => rfl
  | [], _ :: _, _, h => by cases h
  | _ :: _, [], _, h => by cases h
  | a :: l, n :: ns, hn, hl => by
    obtain ⟨h1, h2⟩ := List.nodup_cons.mp hn
    rw [List.map_cons]
    congr 1
    · rw [List.zip_cons_cons, List.lookup_cons, beq_self_eq_true]; rfl
    · have ih := lookup_zip h2 (by simpa using hl : ns.length = l.length)
      refine Eq.trans (List.map_congr_left fun k hk => ?_) ih
      have hb : (k == a) = false := beq_eq_false_iff_ne.mpr fun e => h1 (e ▸ hk)
      rw [List.zip_cons_cons, List.lookup_cons, hb]
theorem OkT.map_num (h : OkT cs ns) : (kinds cs).map (num cs ns) = ns := lookup_zip h.nd h.len
theorem OkT.num_nn (h : OkT cs ns) (hk : k ∈ kinds cs) : 0 ≤ num cs ns k := h.nn _ (by have : num cs ns k ∈ (kinds cs).map (num cs ns) := List.mem_map_of_mem hk; rwa [h.map_num] at this)
theorem OkT.num_mem (h : OkT cs ns) (hk : k ∈ kinds cs) : num cs ns k ∈ ns := by
  have : num cs ns k ∈ (kinds cs).map (num cs ns) := List.mem_map_of_mem hk
  rwa [h.map_num] at this
theorem OkT.of (h : OkT cs ns) {ms : List Int} (hl : ms.length = ns.length) (hn : ∀ n ∈ ms, 0 ≤ n) : OkT cs ms := ⟨h.pl, h.p12, hl.trans h.len, hn⟩
/-- a dict of numbers of kinds -/
structure OkD (m : Menu) (x : Di) : Prop where
  pl : Plain m.cols
  p12 : prod m.cols ≤ 12
  nd : (x.kvs.map (·.1)).Nodup
  mem : ∀ p ∈ x.kvs, p.1 ∈ kinds m.cols ∧ 0 ≤ p.2
  len : x.kvs.length ≤ 1000
def tabOf (m : Menu) (x : Di) : Table := ⟨m.cols, (kinds m.cols).map fun k => (x.kvs.lookup k).getD 0⟩
theorem lookup_mem {ω : Type} [BEq ω] [LawfulBEq ω] [DecidableEq ω] {k : ω} {n : Int} : ∀ {l : List (ω × Int)}, l.lookup k = some n → (k, n) ∈ l
  | [], h => by cases h
  | (a, m) :: t, h => by
    rw [List.lookup_cons] at h
    by_cases e : k = a
    · subst e
      rw [beq_self_eq_true] at h
      cases h
      exact List.mem_cons_self
    · rw [beq_eq_false_iff_ne.mpr e] at h
      exact List.mem_cons_of_mem _ (lookup_mem h)
theorem mem_lookup {ω : Type} [BEq ω] [LawfulBEq ω] {k : ω} {n : Int} : ∀ {l : List (ω × Int)}, (l.map (·.1)).Nodup → (k, n) ∈ l → l.lookup k = some n
  | [], _, h => by cases h
  | (a, m) :: t, hn, h => by
    obtain ⟨h1, h2⟩ := List.nodup_cons.mp (by simpa using hn : (a :: t.map (·.1)).Nodup)
    rw [List.lookup_cons]
    rcases List.mem_cons.mp h with e | h
    · cases e
      rw [beq_self_eq_true]
    · have hb : (k == a) = false := beq_eq_false_iff_ne.mpr fun e => h1 (e ▸ List.mem_map_of_mem (f := (·.1)) h)
      rw [hb]
      exact mem_lookup h2 h
theorem OkD.okT {m : Menu} {x : Di} (h : OkD m x) : OkT (tabOf m x).cols (tabOf m x).ns := ⟨h.pl, h.p12, by unfold tabOf; rw [List.length_map], fun n hn => by
  obtain ⟨k, hk, rfl⟩ := List.mem_map.mp hn
  cases e : x.kvs.lookup k with
  | none => exact Int.le_refl _
  | some j => exact (h.mem _ (lookup_mem e)).2⟩
theorem num_tab {m : Menu} {x : Di} (h : OkD m x) (hk : k ∈ kinds m.cols) : num m.cols (tabOf m x).ns k = (x.kvs.lookup k).getD 0 := by
  have hn : (kinds m.cols).Nodup := kinds_nd fun c hc => (h.pl.col c hc).nd
  have hz := h.okT.map_num
  have : ∀ l : List (List Str), l.map (num m.cols (tabOf m x).ns) = l.map (fun k => (x.kvs.lookup k).getD 0) → k ∈ l → num m.cols (tabOf m x).ns k = (x.kvs.lookup k).getD 0 := by
    intro l
    induction l with
    | nil => intro _ h; cases h
    | cons a l ih =>
      intro h hm
      rw [List.map_cons, List.map_cons] at h
      injection h with h1 h2
      rcases List.mem_cons.mp hm with rfl | hm
      · exact h1
      · exact ih h2 hm
  exact this _ hz hk
theorem OkT.okD (h : OkT cs ns) : OkD ⟨cs⟩ ⟨(kinds cs).zip ns⟩ := ⟨h.pl, h.p12, by
  show (((kinds cs).zip ns).map (·.1)).Nodup
  rw [List.map_fst_zip (by rw [h.len]; exact Nat.le_refl _)]; exact h.nd, fun p hp => ⟨(List.of_mem_zip hp).1, h.nn _ (List.of_mem_zip hp).2⟩, by
  show ((kinds cs).zip ns).length ≤ 1000
  rw [List.length_zip]; have := h.k12; omega⟩
theorem OkT.tab (h : OkT cs ns) : tabOf ⟨cs⟩ ⟨(kinds cs).zip ns⟩ = ⟨cs, ns⟩ := by
  show Table.mk cs _ = _
  rw [lookup_zip h.nd h.len]
theorem kinds_l (cs : List Col) : (kindsT ⟨cs⟩).l.map TupK.l = kinds cs := by
  show ((kinds cs).map TupK.mk).map TupK.l = _
  rw [List.map_map]; exact List.map_id _
/-! ### texts -/
theorem worth_free {z : Str} (h : isWorth z = true) : ∀ c ∈ tl z, c ≠ 32 ∧ c ≠ 44 := by
  intro c hc
  unfold isWorth at h
  simp only [Bool.and_eq_true, List.all_map, List.all_eq_true, Function.comp, id] at h
  have := h.2 ⟨#[c]⟩ (by unfold signs; exact List.mem_map_of_mem hc)
  unfold inS at this
  rw [Bool.or_eq_true] at this
  have e1 : ∀ d ∈ lettersS.cps.toList, d ≠ 32 ∧ d ≠ 44 := by decide +kernel
  have e2 : ∀ d ∈ digitsS.cps.toList, d ≠ 32 ∧ d ≠ 44 := by decide +kernel
  exact this.elim (fun h => e1 c (of_decide_eq_true h)) fun h => e2 c (of_decide_eq_true h)
theorem strI_num {n : Int} (h : 0 ≤ n) : strI n = numS n.toNat := by
  unfold strI numS
  rw [Int.toNat_of_nonneg h]
theorem tl_strI {n : Int} (h : 0 ≤ n) : tl (strI n) = numL n.toNat := by rw [strI_num h]; exact tl_num _
theorem Plain.kind (h : Plain cs) (hk : k ∈ kinds cs) : ∀ z ∈ k, isWorth z = true := fun z hz => by
  obtain ⟨c, hc, hm⟩ := kind_worth hk z hz
  exact ((h.col c hc).ws z hm).1
theorem part_free (h : Plain cs) (hk : k ∈ kinds cs) {n : Int} (hn : 0 ≤ n) : ∀ z ∈ strI n :: k, 32 ∉ tl z ∧ 44 ∉ tl z := fun z hz => by
  rcases List.mem_cons.mp hz with rfl | hz
  · rw [tl_strI hn]; exact ⟨numL_free (.inl (by decide)), numL_free (.inl (by decide))⟩
  · exact ⟨fun hm => (worth_free (h.kind hk z hz) _ hm).1 rfl, fun hm => (worth_free (h.kind hk z hz) _ hm).2 rfl⟩
theorem part_split (h : Plain cs) (hk : k ∈ kinds cs) {n : Int} (hn : 0 ≤ n) : Txt.split (partS n k) " " = strI n :: k :=
  split_join (s := 32) (S := []) (by decide +kernel) (by decide +kernel) (by simp) fun p hp => (part_free h hk hn p hp).1
theorem part_comma (h : Plain cs) (hk : k ∈ kinds cs) {n : Int} (hn : 0 ≤ n) : 44 ∉ tl (partS n k) := fun hm => by
  rcases join_mem hm with hm | ⟨z, hz, hm⟩
  · exact absurd hm (by decide +kernel)
  · exact (part_free h hk hn z hz).2 hm
theorem OkT.pos_mem (h : OkT cs ns) (hk : k ∈ posK cs ns) : k ∈ kinds cs ∧ 0 < num cs ns k := by
  unfold posK at hk
  rw [List.mem_filter] at hk
  exact ⟨hk.1, of_decide_eq_true hk.2⟩
theorem OkT.split (h : OkT cs ns) (hp : tabParts cs ns ≠ []) : Txt.split (Txt.join ", " (tabParts cs ns)) ", " = tabParts cs ns :=
  split_join (s := 44) (S := [32]) (by decide +kernel) (by decide +kernel) hp fun p hp => by
    obtain ⟨k, hk, rfl⟩ := List.mem_map.mp hp
    obtain ⟨h1, h2⟩ := h.pos_mem hk
    exact part_comma h.pl h1 (Int.le_of_lt h2)
theorem numL_ne0 {n : Nat} (h : 1 ≤ n) : ∃ c t, numL n = c :: t ∧ c ≠ 48 := by
  induction n using Nat.strongRecOn with
  | _ n ih =>
    by_cases c : n < 10
    · exact ⟨48 + n, [], numL_lt c, by omega⟩
    · obtain ⟨d, t, e, hd⟩ := ih (n / 10) (by omega) (by omega)
      exact ⟨d, t ++ [48 + n % 10], by rw [numL_step (by omega), e]; rfl, hd⟩
theorem strI_len {n : Int} (h0 : 0 ≤ n) (h1 : n < 10 ^ 40) : (strI n).length ≤ 40 := by
  rw [strI_num h0]
  unfold numS
  rw [len_tl, tl_num]
  exact numL_len (by decide) (by omega)
theorem join_ne {y : Str} {ps : List Str} (h : ∃ p t c u, ps = p :: t ∧ tl p = c :: u ∧ c ≠ 110) : Txt.join y ps ≠ "nothing" := by
  obtain ⟨p, t, c, u, rfl, hp, hc⟩ := h
  intro e
  have e1 := congrArg tl e
  rw [join_eq] at e1
  have e2 : ∃ w, tl (Str.join y (p :: t)) = c :: w := by
    cases t with
    | nil => exact ⟨u, hp⟩
    | cons q r =>
      refine ⟨u ++ tl y ++ tl (Str.join y (q :: r)), ?_⟩
      show tl (p ++ y ++ Str.join y (q :: r)) = _
      rw [tl_append, tl_append, hp]; rfl
  obtain ⟨w, hw⟩ := e2
  rw [hw] at e1
  have e3 : tl ("nothing" : Str) = [110, 111, 116, 104, 105, 110, 103] := by decide +kernel
  rw [e3] at e1
  injection e1 with e1 _
  exact hc e1
theorem OkT.text_not (h : OkT cs ns) (hp : tabParts cs ns ≠ []) : Txt.join ", " (tabParts cs ns) ≠ "nothing" := by
  refine join_ne ?_
  cases hq : posK cs ns with
  | nil => unfold tabParts at hp; rw [hq] at hp; exact absurd rfl hp
  | cons k t =>
    obtain ⟨h1, h2⟩ := h.pos_mem (k := k) (by rw [hq]; exact List.mem_cons_self)
    obtain ⟨c, u, e, _⟩ := numL_ne0 (n := (num cs ns k).toNat) (by omega)
    have hd := numL_digits (num cs ns k).toNat c (by rw [e]; exact List.mem_cons_self)
    have hs : ∃ u', tl (partS (num cs ns k) k) = c :: u' := by
      unfold partS
      rw [join_eq]
      cases hk : k with
      | nil => exact ⟨u, by show tl (strI _) = _; rw [← hk, tl_strI (Int.le_of_lt h2), e]⟩
      | cons z zs =>
        refine ⟨u ++ tl " " ++ tl (Str.join " " (z :: zs)), ?_⟩
        show tl (strI _ ++ " " ++ Str.join " " (z :: zs)) = _
        rw [tl_append, tl_append, ← hk, tl_strI (Int.le_of_lt h2), e]; rfl
    obtain ⟨u', hu⟩ := hs
    exact ⟨_, _, c, u', by unfold tabParts; rw [hq]; rfl, hu, by omega⟩
theorem part_len (h : Plain cs) (hk : k ∈ kinds cs) {n : Int} (h0 : 0 ≤ n) (h1 : n < 10 ^ 40) : (partS n k).length ≤ 200 := by
  have h2 := join_len (z := " ") (xs := strI n :: k) (n := 40) fun z hz => by
    rcases List.mem_cons.mp hz with rfl | hz
    · exact strI_len h0 h1
    · have := (isWorth_len (h.kind hk z hz)).1; omega
  have h3 := h.l3
  have h4 := kind_len hk
  have e : (" " : Str).length = 1 := by decide +kernel
  rw [e, List.length_cons, h4] at h2
  unfold partS
  omega
theorem OkT.parts_len (h : OkT cs ns) : (tabParts cs ns).length ≤ 12 := by
  unfold tabParts posK
  rw [List.length_map]
  exact Nat.le_trans (List.length_filter_le _ _) h.k12
theorem OkT.text_len (h : OkT cs ns) (hb : ∀ n ∈ ns, n < 10 ^ 40) : (tabText cs ns).length ≤ 10000 := by
  unfold tabText
  by_cases c : (tabParts cs ns).length > 0
  · rw [if_pos c]
    have h2 := join_len (z := ", ") (xs := tabParts cs ns) (n := 200) fun z hz => by
      obtain ⟨k, hk, rfl⟩ := List.mem_map.mp hz
      obtain ⟨h1, h3⟩ := h.pos_mem hk
      exact part_len h.pl h1 (Int.le_of_lt h3) (hb _ (h.num_mem h1))
    have e : (", " : Str).length = 2 := by decide +kernel
    rw [e] at h2
    have := h.parts_len
    omega
  · rw [if_neg c]; exact show ("nothing" : Str).length ≤ 10000 by decide +kernel
end
/-! ### a table's fields -/
section
variable {α β γ : Type} [Py α] [Py β] [Py γ] {W : Wd} {M M' N : List Addr} {σ σ' : L2.St} {H H1 H2 H' : Hp} {te ta tb tc tl : TE} {t : Table}
theorem tb_menu (ha : Ev W M ta σ H t) (c : Cls W.K (W.C "Table")) (n : NoAttr W.K (W.C "Table") "own_menu") : Ev W M (tFld W.K ta "own_menu") σ H (Menu.mk t.cols) :=
  ev_fld ha c n fun {v H2} r {a dx fs} e hh => by
    obtain ⟨a', dx', vm, vc, vt, e', h1, h2, h3, h4⟩ := r
    subst e; cases e'
    rw [cut_at h1] at hh; cases hh
    exact ⟨vm, by rw [List.lookup_cons, beq_self_eq_true], h2⟩
theorem tb_counts (ha : Ev W M ta σ H t) (c : Cls W.K (W.C "Table")) (n : NoAttr W.K (W.C "Table") "own_counts") : Ev W M (tFld W.K ta "own_counts") σ H (Tup.mk t.ns) :=
  ev_fld ha c n fun {v H2} r {a dx fs} e hh => by
    obtain ⟨a', dx', vm, vc, vt, e', h1, h2, h3, h4⟩ := r
    subst e; cases e'
    rw [cut_at h1] at hh; cases hh
    exact ⟨vc, by rw [List.lookup_cons, show (("own_counts" : Str) == "own_menu") = false by decide +kernel]; dsimp only; rw [List.lookup_cons, beq_self_eq_true], h3⟩
theorem tb_there (ha : Ev W M ta σ H t) (c : Cls W.K (W.C "Table")) (n : NoAttr W.K (W.C "Table") "own_there") : Ev W M (tFld W.K ta "own_there") σ H (Tup.mk (there t.cols t.ns)) :=
  ev_fld ha c n fun {v H2} r {a dx fs} e hh => by
    obtain ⟨a', dx', vm, vc, vt, e', h1, h2, h3, h4⟩ := r
    subst e; cases e'
    rw [cut_at h1] at hh; cases hh
    exact ⟨vt, by rw [List.lookup_cons, show (("own_there" : Str) == "own_menu") = false by decide +kernel]; dsimp only; rw [List.lookup_cons, show (("own_there" : Str) == "own_counts") = false by decide +kernel]; rfl, h4⟩
end
/-! ### a new list -/
section
variable {α β : Type} [Py α] [Py β] {W : Wd} {M M' N : List Addr} {σ σ' : L2.St} {H H1 H2 H' : Hp} {te ta tb tc tl : TE} {E : XK} {D : Ends} {k : Nat}
def EvN (W : Wd) (M : List Addr) (te : TE) (σ : L2.St) (H : Hp) (xs : List α) : Prop :=
  ∀ H1, Ex W [] H H1 → Ok W M H1 → ∀ Q : VK, (∀ p H2, H1 p = none → Ex W [] H1 H2 → Rep W M H2 (.ref p) xs → Q (.ref p) H2) → te σ H1 Q
theorem EvN.ev {xs : List α} (h : EvN W M te σ H xs) : Ev W M te σ H xs := fun H1 e ok Q q => h H1 e ok Q fun p H2 _ e2 r => q _ H2 e2 r
def F1n (K : PySem.W.Frag) (C : Str → Addr) (pre : α → Prop) (f : α → List β) : Sp := fun vs H Q _ => ∃ (W : Wd) (M : List Addr) (v : V) (x : α), W.K = K ∧ W.C = C ∧ vs = [v] ∧ Ok W M H ∧ Rep W M H v x ∧ pre x ∧ ∀ p H', H p = none → Ex W [] H H' → Rep W M H' (.ref p) (f x) → Q (.ref p) H'
theorem evn_listT {xs : Tup α} (ha : Ev W M ta σ H xs) : EvN W M (tCB (rListOf W.K) (tCons ta tNil)) σ H xs.l := fun H1 e ok Q q =>
  ha H1 e ok _ fun v H2 e2 r => by
    obtain ⟨a, vs, ev, hh, _, _, pp⟩ := r.tup
    exact ⟨a, vs, by rw [ev], .inr (.inl hh), fun l hl => q _ _ (e2.free hl) (e2.trans (Ex.new hl)) (rep_lst upd_same ((ok.ex e2).new_b hl) ((ok.ex e2).new_M hl) (Pd.mono pp fun _ _ r => r.up (Ex.new hl)))⟩
theorem evn_m0 {ω : Type} [PyO ω] {o : ω} {pre : ω → Prop} {f : ω → List β} {m : Str} (ha : Ev W M ta σ H o) (hp : pre o) (hm : (PyO.fns ω).contains m = false) : EvN W M (tMeth (W.C (PyO.cn ω)) m (F1n W.K W.C pre f) [] E ta tNil) σ H (f o) := fun H1 e ok Q q =>
  ha H1 e ok _ fun v H2 e2 r => by
    obtain ⟨a, dx, fs, ev, hh, hf⟩ := r.ins
    exact ⟨a, dx, fs, ev, hh, lookup_none (by rw [hf]; exact hm), W, M, _, o, rfl, rfl, rfl, ok.ex e2, r, hp, fun p H3 hn e3 rr => q p H3 (e2.free hn) (e2.trans e3) rr⟩
theorem s_retN {xs : List α} (ok : Ok W M H) (h : EvN W M te σ H xs) (q : ∀ p H', H p = none → Ex W [] H H' → Rep W M H' (.ref p) xs → D.rt (.ref p) H') : tRet te D σ H :=
  h H Ex.refl ok _ fun p H' hn e r => q p H' hn e r
/-- xs = a new list of scalars, which will be filled -/
theorem s_accN {δ : Type} [DecidableEq δ] [PyS δ] {xs : List δ} (ok : Ok W M H) (h : EvN W M te σ H xs) (hk : k < σ.length)
    (q : ∀ p H', H p = none → Ex W [] H H' → Le (cut W M H) (cut W (p :: M) H') → Ok W (p :: M) H' → Acc W (p :: M) (σ.set k (some (.ref p))) H' k p xs → D.nx (σ.set k (some (.ref p))) H') : tAsg te (gName k) D σ H :=
  h H Ex.refl ok _ fun p H' hn e r => by
    obtain ⟨a, vs, ea, hh, nb, nm, pp⟩ := r.lst
    cases ea
    have nbl := ok.new_bl hn
    have ok' := ok.ex e
    refine q p H' hn e ⟨fun b o hb => ?_⟩ ⟨ok'.bag, fun b hb => ?_⟩ ⟨by rw [List.getElem?_set_self hk], nb, nbl, List.mem_cons_self, vs, hh, ?_⟩
    · obtain ⟨h1, h2, h3⟩ := cut_some.mp hb
      refine cut_some.mpr ⟨h1, fun hm => ?_, e.keep _ _ h1 (by simp) h3⟩
      rcases List.mem_cons.mp hm with rfl | hm
      · rw [hn] at h3; cases h3
      · exact h2 hm
    · rcases List.mem_cons.mp hb with rfl | hb
      · rw [hh]; exact fun z => nomatch z
      · exact ok'.laid b hb
    · rw [paired_toV pp]; exact toV_paired
end
/-! ### the promises -/
def keyT (t : Table) : Int × Tup Int := (t.ns.sum, ⟨t.ns.map fun n => -n⟩)
def addL (xs ys : List Int) : List Int := (xs.zip ys).map fun p => p.1 + p.2
def subL (xs ys : List Int) : List Int := (xs.zip ys).map fun p => p.1 - p.2
def leL (xs ys : List Int) : Bool := ((xs.zip ys).map fun p => decide (p.1 ≤ p.2)).all id
section
variable (K : PySem.W.Frag) (C : Str → Addr)
abbrev sp_is_whole : Sp := F1 K C (fun _ : Int => True) fun _ => true
abbrev sp_is_number : Sp := F1 K C (fun _ : Int => True) fun n : Int => decide (n ≥ 0)
abbrev sp_is_numbers : Sp := F2 K C OkD fun _ _ => true
abbrev sp_Table_init : Sp := I2 K C "Table" OkD tabOf
def sp_Table_counted : Sp := fun vs H Q _ => ∃ (W : Wd) (M : List Addr) (v u : V) (m : Menu) (ns : Sq Int), W.K = K ∧ W.C = C ∧ vs = [.ref (C "Table"), v, u] ∧ Ok W M H ∧ Rep W M H v m ∧ Rep W M H u ns ∧ OkT m.cols ns.l ∧ ∀ r H', Ex W [] H H' → Rep W M H' r (Table.mk m.cols ns.l) → Q r H'
def sp_Table_read : Sp := fun vs H Q _ => ∃ (W : Wd) (M : List Addr) (v : V) (m : Menu) (ns : List Int), W.K = K ∧ W.C = C ∧ vs = [.ref (C "Table"), v, .str (tabText m.cols ns)] ∧ Ok W M H ∧ Rep W M H v m ∧ OkT m.cols ns ∧ (∀ n ∈ ns, n < 10 ^ 30) ∧ ∀ r H', Ex W [] H H' → Rep W M H' r (Table.mk m.cols ns) → Q r H'
abbrev sp_Table_menu : Sp := F1 K C (fun _ : Table => True) fun t => Menu.mk t.cols
abbrev sp_Table_rows : Sp := F1 K C (fun _ : Table => True) fun t => t.ns.sum
abbrev sp_Table_iter (n : Nat) : Sp := IterP K C (fun t : Table => Tup.mk (there t.cols t.ns)) n
abbrev sp_Table_getitem : Sp := F2 K C (fun (t : Table) (k : TupK) => OkT t.cols t.ns ∧ k.l ∈ kinds t.cols) fun t k => num t.cols t.ns k.l
abbrev sp_Table_counts : Sp := F1n K C (fun _ : Table => True) fun t => t.ns
abbrev sp_Table_key : Sp := F1 K C (fun t : Table => OkT t.cols t.ns) keyT
abbrev sp_Table_check_menu : Sp := F2 K C (fun t u : Table => t.cols = u.cols) fun _ _ => ()
abbrev sp_Table_add : Sp := F2 K C (fun t u : Table => OkT t.cols t.ns ∧ OkT u.cols u.ns ∧ t.cols = u.cols) fun t u => Table.mk t.cols (addL t.ns u.ns)
abbrev sp_Table_sub : Sp := F2 K C (fun t u : Table => OkT t.cols t.ns ∧ OkT u.cols u.ns ∧ t.cols = u.cols ∧ leL u.ns t.ns = true) fun t u => Table.mk t.cols (subL t.ns u.ns)
abbrev sp_Table_within : Sp := F2 K C (fun t u : Table => OkT t.cols t.ns ∧ t.cols = u.cols) fun t u => leL t.ns u.ns
abbrev sp_Table_same : Sp := F2 K C (fun t u : Table => t.cols = u.cols) fun t u => decide (t.ns = u.ns)
abbrev sp_Table_ahead : Sp := F2 K C (fun t u : Table => OkT t.cols t.ns ∧ OkT u.cols u.ns ∧ t.cols = u.cols) fun t u => ltK (keyT t) (keyT u)
abbrev sp_Table_text : Sp := F1 K C (fun t : Table => OkT t.cols t.ns ∧ ∀ n ∈ t.ns, n < 10 ^ 40) fun t => tabText t.cols t.ns
def sp_number_in : Sp := fun vs H Q _ => ∃ (W : Wd) (M : List Addr) (n : Int), W.K = K ∧ W.C = C ∧ vs = [.str (strI n)] ∧ Ok W M H ∧ 1 ≤ n ∧ n < 10 ^ 30 ∧ ∀ H', Ex W [] H H' → Q (.int n) H'
def sp_counts_in : Sp := fun vs H Q _ => ∃ (W : Wd) (M : List Addr) (v : V) (m : Menu) (ns : List Int), W.K = K ∧ W.C = C ∧ vs = [v, .str (tabText m.cols ns)] ∧ Ok W M H ∧ Rep W M H v m ∧ OkT m.cols ns ∧ (∀ n ∈ ns, n < 10 ^ 30) ∧ ∀ r H', Ex W [] H H' → Rep W M H' r ns → Q r H'
end
end RG
namespace RG
open PySem PySem.Spec PyProof.Rows L2 StX RZ TL
section
variable {α β γ : Type} [Py α] [Py β] [Py γ] {W : Wd} {M M' N : List Addr} {σ σ' : L2.St} {H H1 H2 H' : Hp} {te ta tb tc tl : TE} {tr : TA} {cs : List Col} {ns ms : List Int} {E : XK}
theorem there_eq {m : Menu} {x : Di} (h : OkD m x) : Tup.mk (there m.cols (tabOf m x).ns) = Tup.mk (((kindsT m).l.filter fun key : TupK => decide ((x.kvs.lookup key.l).getD 0 > 0)).map fun key => key) := by
  congr 1
  rw [List.map_id']
  unfold there posK kindsT
  rw [List.filter_map]
  congr 1
  refine List.filter_congr fun k hk => ?_
  rw [num_tab h hk]; rfl
theorem putF3 {a b c : V} : putF "own_there" c (putF "own_counts" b (putF "own_menu" a [])) = [(("own_menu" : Str), a), (("own_counts" : Str), b), (("own_there" : Str), c)] := by
  have h1 : ¬ ("own_menu" : Str) = "own_counts" := by decide +kernel
  have h2 : ¬ ("own_menu" : Str) = "own_there" := by decide +kernel
  have h3 : ¬ ("own_counts" : Str) = "own_there" := by decide +kernel
  simp [putF, h1, h2, h3]
theorem place_num {key : TupK} (h : OkT cs ns) (hk : key.l ∈ kinds cs) : atI (Tup.mk ns).l (placeOf ⟨cs⟩ (PyD.dat key)) = some (num cs ns key.l) := by
  obtain ⟨i, hi⟩ := List.mem_iff_getElem?.mp hk
  have hk2 : (kindsT ⟨cs⟩).l[i]? = some key := by
    unfold kindsT
    rw [List.getElem?_map, hi]; rfl
  have hnd : (kindsT ⟨cs⟩).l.Nodup := kindsT_nd fun c hc => (h.pl.col c hc).nd
  have hp : placeOf ⟨cs⟩ (PyD.dat key) = (i : Int) := by
    unfold placeOf
    rw [eqv_list, idx_true hnd hk2]
  rw [hp]
  refine atI_nat ?_
  show ns[i]? = _
  have := h.map_num
  rw [← this, List.getElem?_map, hi, this]; rfl
theorem ev_counted {xs : Sq Int} (ha : Ev W M ta σ H (Menu.mk cs)) (hb : Ev W M tb σ H xs) (hT : OkT cs xs.l) : Ev W M (ClX.tCMeth (W.C "Table") (sp_Table_counted W.K W.C) E (tC (.ref (W.C "Table"))) (tCons ta (tCons tb tNil))) σ H (Table.mk cs xs.l) := fun H1 e ok Q q =>
  ⟨rfl, ha H1 e ok _ fun v H2 e2 r => hb H2 (e.trans e2) (ok.ex e2) _ fun u H3 e3 r3 => ⟨W, M, v, u, ⟨cs⟩, xs, rfl, rfl, rfl, (ok.ex e2).ex e3, r.up e3, r3, hT, fun r H4 e4 rr => q r H4 ((e2.trans e3).trans e4) rr⟩⟩
/-- a list is not None -/
theorem ev_isNone {xs : List α} (ha : Ev W M ta σ H xs) : Ev W M (tOp (fun x y H Q => y = V.non ∧ Q (V.bl (decide (x = V.non))) H) ta (tC .non)) σ H false := fun H1 e ok Q q =>
  ha H1 e ok _ fun v H2 e2 r => by
    obtain ⟨a, vs, rfl, _⟩ := r.lst
    exact ⟨rfl, by rw [decide_eq_false (fun z => nomatch z)]; exact q _ H2 e2 rep_bl⟩
/-- number_in(word) -/
theorem ev_numIn {n : Int} (ha : Ev W M ta σ H (strI n)) (h1 : 1 ≤ n) (h2 : n < 10 ^ 30) : Ev W M (tCall (sp_number_in W.K W.C) [] E (tCons ta tNil)) σ H n := fun H1 e ok Q q =>
  ha H1 e ok _ fun v H2 e2 r => ⟨W, M, n, rfl, rfl, (by cases (show v = .str (strI n) from r); rfl), ok.ex e2, h1, h2, fun H3 e3 => q _ H3 (e2.trans e3) rep_int⟩
/-- what is read of a table's text so far -/
theorem place_at (h : OkT cs ns) {a b : List (List Str)} {key : List Str} (e : kinds cs = a ++ key :: b) : placeOf ⟨cs⟩ (PyD.dat (TupK.mk key)) = (a.length : Int) := by
  have hk2 : (kindsT ⟨cs⟩).l[a.length]? = some (TupK.mk key) := by
    unfold kindsT
    show ((kinds cs).map TupK.mk)[a.length]? = _
    rw [e, List.getElem?_map, List.getElem?_append_right (Nat.le_refl _), Nat.sub_self]; rfl
  unfold placeOf
  rw [eqv_list, idx_true (kindsT_nd fun c hc => (h.pl.col c hc).nd) hk2]
theorem zeros (h : OkT cs ns) {pre : List (List Str)} (hm : ∀ k ∈ pre, k ∈ kinds cs) (hz : ∀ k ∈ pre, ¬ decide (num cs ns k > 0) = true) : pre.map (num cs ns) = List.replicate pre.length 0 := by
  induction pre with
  | nil => rfl
  | cons k t ih =>
    rw [List.map_cons, List.length_cons, List.replicate_succ, ih (fun z hz => hm z (List.mem_cons_of_mem _ hz)) fun z h => hz z (List.mem_cons_of_mem _ h)]
    have h1 := h.num_nn (hm k (by simp))
    have h2 : ¬ num cs ns k > 0 := fun z => hz k (by simp) (decide_eq_true z)
    rw [show num cs ns k = 0 by omega]
theorem step_set (h : OkT cs ns) {dn pre post : List (List Str)} {key : List Str} (hm : ∀ k ∈ pre, k ∈ kinds cs) (hz : ∀ k ∈ pre, ¬ decide (num cs ns k > 0) = true) :
    (dn.map (num cs ns) ++ List.replicate (pre ++ key :: post).length 0).set (dn.length + pre.length) (num cs ns key) = (dn ++ pre ++ [key]).map (num cs ns) ++ List.replicate post.length 0 := by
  rw [List.map_append, List.map_append, zeros h hm hz, List.length_append, List.length_cons, ← List.replicate_append_replicate, List.replicate_succ, ← List.append_assoc]
  rw [List.set_append_right _ _ (by rw [List.length_append, List.length_map, List.length_replicate]; exact Nat.le_refl _)]
  rw [List.length_append, List.length_map, List.length_replicate, Nat.sub_self, List.set_cons_zero]
  simp
theorem next_part (h : OkT cs ns) {td : List (List Str)} {x : Str} {rest : List Str} (e : (td.filter fun k => decide (num cs ns k > 0)).map (fun k => partS (num cs ns k) k) = x :: rest) :
    ∃ pre key post, td = pre ++ key :: post ∧ (∀ k ∈ pre, ¬ decide (num cs ns k > 0) = true) ∧ 0 < num cs ns key ∧ x = partS (num cs ns key) key ∧ rest = (post.filter fun k => decide (num cs ns k > 0)).map fun k => partS (num cs ns k) k := by
  cases hf : td.filter fun k => decide (num cs ns k > 0) with
  | nil => rw [hf] at e; cases e
  | cons key t =>
    rw [hf, List.map_cons] at e
    injection e with e1 e2
    obtain ⟨pre, post, h1, h2, h3, h4⟩ := List.filter_eq_cons_iff.mp hf
    exact ⟨pre, key, post, h1, h2, of_decide_eq_true h3, e1.symm, by rw [h4]; exact e2.symm⟩
theorem text_parts (h : OkT cs ns) : (if (!decide (tabText cs ns = "nothing")) = true then Txt.split (tabText cs ns) ", " else []) = tabParts cs ns := by
  by_cases c : tabParts cs ns = []
  · have e : tabText cs ns = "nothing" := by unfold tabText; rw [c]; rfl
    rw [e, c]; rfl
  · have hl : (tabParts cs ns).length > 0 := List.length_pos_iff.mpr c
    have e : tabText cs ns = Txt.join ", " (tabParts cs ns) := by unfold tabText; rw [if_pos hl]
    rw [e, decide_eq_false (h.text_not c), if_pos (by rfl), h.split c]
theorem zip_nn {f : Int × Int → Int} {xs ys : List Int} (h : ∀ p ∈ xs.zip ys, 0 ≤ f p) : ∀ n ∈ (xs.zip ys).map f, 0 ≤ n := fun n hn => by
  obtain ⟨p, hp, rfl⟩ := List.mem_map.mp hn
  exact h p hp
theorem add_ok {cs' : List Col} (h : OkT cs ns) (h' : OkT cs' ms) (e : cs = cs') : OkT cs (addL ns ms) := by
  subst e
  refine h.of (by unfold addL; rw [List.length_map, List.length_zip, h.len, h'.len, Nat.min_self]) (zip_nn fun p hp => ?_)
  have h1 := h.nn _ (List.of_mem_zip hp).1
  have h2 := h'.nn _ (List.of_mem_zip hp).2
  omega
theorem leL_zip {xs ys : List Int} (h : leL xs ys = true) : ∀ p ∈ xs.zip ys, p.1 ≤ p.2 := by
  unfold leL at h
  rw [List.all_map, List.all_eq_true] at h
  exact fun p hp => of_decide_eq_true (h p hp)
theorem zip_swap {xs ys : List Int} {p : Int × Int} : p ∈ xs.zip ys → (p.2, p.1) ∈ ys.zip xs := by
  induction xs generalizing ys with
  | nil => intro h; simp at h
  | cons x xs ih =>
    cases ys with
    | nil => intro h; simp at h
    | cons y ys =>
      intro h
      rw [List.zip_cons_cons] at h ⊢
      rcases List.mem_cons.mp h with rfl | h
      · exact List.mem_cons_self
      · exact List.mem_cons_of_mem _ (ih h)
theorem sub_ok {cs' : List Col} (h : OkT cs ns) (h' : OkT cs' ms) (e : cs = cs') (hl : leL ms ns = true) : OkT cs (subL ns ms) := by
  subst e
  refine h.of (by unfold subL; rw [List.length_map, List.length_zip, h.len, h'.len, Nat.min_self]) (zip_nn fun p hp => ?_)
  have h1 := leL_zip hl _ (zip_swap hp)
  simp only at h1
  omega
theorem log_lt {n : Int} (h0 : 0 ≤ n) (h1 : n < 10 ^ 40) : n.natAbs.log2 < 1920 := by
  have : n.natAbs < 2 ^ 1920 := Nat.lt_of_lt_of_le (show n.natAbs < 10 ^ 40 by omega) (by decide +kernel)
  by_cases z : n.natAbs = 0
  · rw [z]; decide
  · exact (Nat.log2_lt z).mpr this
end
end RG
namespace RG
open PySem PySem.Spec PyProof.Rows L2 StX RZ TL
/-! ### the law's own tables -/
section
variable {cs : List Col} {ns : List Int}
def keepP (ns : List Int) (i : Nat) : Bool := decide (ns.getD i 0 > 0) || decide ((i : Int) % 3 = 1)
def numsTo (cs : List Col) (ns : List Int) (i : Nat) : List (List Str × Int) := ((List.range i).filter (keepP ns)).map fun j => ((kinds cs).getD j [], ns.getD j 0)
def numbersD (cs : List Col) (ns : List Int) : Di := ⟨numsTo cs ns (kinds cs).length⟩
theorem numsTo_succ (i : Nat) : numsTo cs ns (i + 1) = numsTo cs ns i ++ if keepP ns i = true then [((kinds cs).getD i [], ns.getD i 0)] else [] := by
  unfold numsTo
  rw [List.range_succ, List.filter_append, List.map_append]
  by_cases h : keepP ns i = true
  · rw [if_pos h, List.filter_cons_of_pos h]; rfl
  · rw [if_neg h, List.filter_cons_of_neg h]; rfl
theorem getD_inj {ω : Type} {d : ω} {l : List ω} (h : l.Nodup) {i j : Nat} (hi : i < l.length) (hj : j < l.length) (e : l.getD i d = l.getD j d) : i = j := by
  rw [List.getD_eq_getElem?_getD, List.getD_eq_getElem?_getD, List.getElem?_eq_getElem hi, List.getElem?_eq_getElem hj] at e
  have e := Option.some.inj (show some l[i] = some l[j] by simpa using e)
  have pw := List.pairwise_iff_getElem.mp h
  rcases Nat.lt_trichotomy i j with c | c | c
  · exact absurd e (pw i j hi hj c)
  · exact c
  · exact absurd e.symm (pw j i hj hi c)
theorem numsTo_key (h : OkT cs ns) {i : Nat} (hi : i ≤ (kinds cs).length) : ∀ p ∈ numsTo cs ns i, ∃ j, j < i ∧ keepP ns j = true ∧ p = ((kinds cs).getD j [], ns.getD j 0) := fun p hp => by
  unfold numsTo at hp
  obtain ⟨j, hj, rfl⟩ := List.mem_map.mp hp
  rw [List.mem_filter, List.mem_range] at hj
  exact ⟨j, hj.1, hj.2, rfl⟩
theorem putL_new {l : List (List Str × Int)} {k : List Str} {n : Int} (h : k ∉ l.map (·.1)) : putL l k n = l ++ [(k, n)] := by
  unfold putL
  rw [if_neg]
  intro e
  rw [List.any_eq_true] at e
  obtain ⟨p, hp, e⟩ := e
  exact h (of_decide_eq_true e ▸ List.mem_map_of_mem (f := (·.1)) hp)
theorem numsTo_put (h : OkT cs ns) {i : Nat} (hi : i < (kinds cs).length) (hk : keepP ns i = true) : putL (numsTo cs ns i) ((kinds cs).getD i []) (ns.getD i 0) = numsTo cs ns (i + 1) := by
  rw [numsTo_succ, if_pos hk, putL_new]
  intro hm
  obtain ⟨p, hp, e⟩ := List.mem_map.mp hm
  obtain ⟨j, hj, _, rfl⟩ := numsTo_key h (Nat.le_of_lt hi) p hp
  have := getD_inj h.nd (show j < (kinds cs).length by omega) hi e
  omega
theorem numsTo_skip {i : Nat} (hk : keepP ns i = false) : numsTo cs ns (i + 1) = numsTo cs ns i := by
  rw [numsTo_succ, hk, if_neg Bool.false_ne_true, List.append_nil]
theorem numsTo_len {i : Nat} : (numsTo cs ns i).length ≤ i := by
  unfold numsTo
  rw [List.length_map]
  exact Nat.le_trans (List.length_filter_le _ _) (by rw [List.length_range]; exact Nat.le_refl _)
theorem getD_mem {ω : Type} {d : ω} {l : List ω} {i : Nat} (hi : i < l.length) : l.getD i d ∈ l := by
  rw [List.getD_eq_getElem?_getD, List.getElem?_eq_getElem hi]; exact List.getElem_mem hi
theorem num_at (h : OkT cs ns) {i : Nat} (hi : i < (kinds cs).length) : num cs ns ((kinds cs).getD i []) = ns.getD i 0 := by
  have e := h.map_num
  have e2 : ((kinds cs).map (num cs ns))[i]? = ns[i]? := by rw [e]
  rw [List.getElem?_map, List.getElem?_eq_getElem hi, List.getElem?_eq_getElem (by rw [h.len]; exact hi)] at e2
  rw [List.getD_eq_getElem?_getD, List.getD_eq_getElem?_getD, List.getElem?_eq_getElem hi, List.getElem?_eq_getElem (by rw [h.len]; exact hi)]
  exact Option.some.inj e2
theorem numbers_nd (h : OkT cs ns) : ∀ i, i ≤ (kinds cs).length → ((numsTo cs ns i).map (·.1)).Nodup
  | 0, _ => List.nodup_nil
  | i + 1, hi => by
    have ih := numbers_nd h i (by omega)
    rw [numsTo_succ]
    by_cases hk : keepP ns i = true
    · rw [if_pos hk, List.map_append, List.nodup_append]
      refine ⟨ih, by simp, fun a ha b hb e => ?_⟩
      have hb' : b = (kinds cs).getD i [] := by simpa using hb
      obtain ⟨p, hp, rfl⟩ := List.mem_map.mp ha
      obtain ⟨j, hj, _, rfl⟩ := numsTo_key h (Nat.le_of_lt hi) p hp
      have := getD_inj h.nd (show j < (kinds cs).length by omega) hi (e.trans hb')
      omega
    · rw [if_neg hk, List.append_nil]; exact ih
theorem numbers_ok (h : OkT cs ns) : OkD ⟨cs⟩ (numbersD cs ns) := ⟨h.pl, h.p12, numbers_nd h _ (Nat.le_refl _), fun p hp => by
  obtain ⟨j, hj, _, rfl⟩ := numsTo_key h (Nat.le_refl _) p hp
  refine ⟨getD_mem hj, h.nn _ (getD_mem (by rw [h.len]; exact hj))⟩, Nat.le_trans numsTo_len (by have := h.k12; omega)⟩
theorem numbers_look (h : OkT cs ns) {i : Nat} (hi : i < (kinds cs).length) : ((numbersD cs ns).kvs.lookup ((kinds cs).getD i [])).getD 0 = ns.getD i 0 := by
  by_cases hk : keepP ns i = true
  · have e : (numsTo cs ns (kinds cs).length).lookup ((kinds cs).getD i []) = some (ns.getD i 0) := mem_lookup (numbers_nd h _ (Nat.le_refl _)) (by
      unfold numsTo
      exact List.mem_map.mpr ⟨i, List.mem_filter.mpr ⟨List.mem_range.mpr hi, hk⟩, rfl⟩)
    show ((numsTo cs ns (kinds cs).length).lookup ((kinds cs).getD i [])).getD 0 = _
    rw [e]; rfl
  · have h0 : ns.getD i 0 = 0 := by
      unfold keepP at hk
      have h1 := h.nn _ (getD_mem (d := 0) (l := ns) (i := i) (by rw [h.len]; exact hi))
      have h2 : ¬ ns.getD i 0 > 0 := fun z => hk (by rw [decide_eq_true z]; rfl)
      omega
    rw [h0]
    cases e : (numbersD cs ns).kvs.lookup ((kinds cs).getD i []) with
    | none => rfl
    | some n =>
      obtain ⟨j, hj, hkj, e2⟩ := numsTo_key h (Nat.le_refl _) _ (lookup_mem e)
      have e3 : (kinds cs).getD i [] = (kinds cs).getD j [] := congrArg Prod.fst e2
      have := getD_inj h.nd hi hj e3
      subst this
      exact absurd hkj hk
theorem map_getD {ω δ : Type} {d : ω} {l : List ω} {f : ω → δ} : l.map f = (List.range l.length).map fun i => f (l.getD i d) := by
  refine List.ext_getElem? fun i => ?_
  by_cases hi : i < l.length
  · rw [List.getElem?_map, List.getElem?_map, List.getElem?_eq_getElem hi, List.getElem?_range hi]
    show some _ = some (f (l.getD i d))
    rw [List.getD_eq_getElem?_getD, List.getElem?_eq_getElem hi]; rfl
  · rw [List.getElem?_eq_none (by rw [List.length_map]; omega), List.getElem?_eq_none (by rw [List.length_map, List.length_range]; omega)]
theorem numbers_tab (h : OkT cs ns) : tabOf ⟨cs⟩ (numbersD cs ns) = ⟨cs, ns⟩ := by
  show Table.mk cs _ = _
  congr 1
  show ((kinds cs).map fun k => ((numbersD cs ns).kvs.lookup k).getD 0) = ns
  rw [map_getD (d := [])]
  have e : ns = (List.range (kinds cs).length).map fun i => ns.getD i 0 := by
    have := map_getD (d := 0) (l := ns) (f := fun n => n)
    rw [List.map_id', h.len] at this
    exact this
  conv => rhs; rw [e]
  exact List.map_congr_left fun i hi => numbers_look h (List.mem_range.mp hi)
/-! ### kinds by their places -/
theorem pos_by_place (h : OkT cs ns) {δ : Type} (f : List Str → Int → δ) : ((rng ((kinds cs).length : Int)).filter fun i => decide (0 < ns.getD i.toNat 0)).map (fun i => f ((kinds cs).getD i.toNat []) (ns.getD i.toNat 0)) = (posK cs ns).map fun k => f k (num cs ns k) := by
  have e : kinds cs = (rng ((kinds cs).length : Int)).map fun i : Int => (kinds cs).getD i.toNat [] := by
    unfold rng
    rw [List.map_map, Int.toNat_natCast]
    have := map_getD (d := []) (l := kinds cs) (f := fun k => k)
    rw [List.map_id'] at this
    exact this
  unfold posK
  conv => rhs; rw [e]
  rw [List.filter_map, List.map_map]
  have hm : ∀ i ∈ rng ((kinds cs).length : Int), num cs ns ((kinds cs).getD i.toNat []) = ns.getD i.toNat 0 := fun i hi => num_at h (by have := rng_mem.mp hi; omega)
  have e1 : (rng ((kinds cs).length : Int)).filter ((fun k => decide (num cs ns k > 0)) ∘ fun i : Int => (kinds cs).getD i.toNat []) = (rng ((kinds cs).length : Int)).filter fun i => decide (0 < ns.getD i.toNat 0) :=
    List.filter_congr fun i hi => by show decide (num cs ns ((kinds cs).getD i.toNat []) > 0) = _; rw [hm i hi]
  rw [e1]
  refine List.map_congr_left fun i hi => ?_
  show _ = f ((kinds cs).getD i.toNat []) (num cs ns ((kinds cs).getD i.toNat []))
  rw [hm i (List.mem_filter.mp hi).1]
/-! ### which one comes first -/
def fdL : List Int → List Int → Bool
  | x :: xs, y :: ys => if x = y then fdL xs ys else decide (y < x)
  | _, _ => false
def aheadL (xs ys : List Int) : Bool := if xs.sum = ys.sum then fdL xs ys else decide (xs.sum < ys.sum)
theorem lex_fdL : ∀ (k : Nat) (xs ys : List Int) (i : Nat), xs.length = i + k → ys.length = i + k → Ob.lexAt (fun j => decide ((xs.map fun n => -n).getD j 0 = (ys.map fun n => -n).getD j 0)) (fun j => decide ((xs.map fun n => -n).getD j 0 < (ys.map fun n => -n).getD j 0)) false i k = fdL (xs.drop i) (ys.drop i)
  | 0, xs, ys, i, h1, h2 => by
    rw [Ob.lexAt_zero, List.drop_of_length_le (by omega), List.drop_of_length_le (by omega)]; rfl
  | k + 1, xs, ys, i, h1, h2 => by
    have c1 : i < xs.length := by omega
    have c2 : i < ys.length := by omega
    have g : ∀ zs : List Int, ∀ c : i < zs.length, (zs.map fun n => -n).getD i 0 = -zs[i] := fun zs c => by
      rw [List.getD_eq_getElem?_getD, List.getElem?_map, List.getElem?_eq_getElem c]; rfl
    rw [Ob.lexAt_succ, lex_fdL k xs ys (i + 1) (by omega) (by omega), List.drop_eq_getElem_cons c1, List.drop_eq_getElem_cons c2]
    show _ = (if xs[i] = ys[i] then fdL (xs.drop (i + 1)) (ys.drop (i + 1)) else decide (ys[i] < xs[i]))
    rw [g xs c1, g ys c2]
    by_cases e : xs[i] = ys[i]
    · rw [if_pos e, e, decide_eq_true rfl, if_pos rfl]
    · have ne : ¬ -xs[i] = -ys[i] := fun z => e (Int.neg_inj.mp z)
      rw [if_neg e, decide_eq_false ne, if_neg Bool.false_ne_true]
      by_cases l : ys[i] < xs[i]
      · rw [decide_eq_true l, decide_eq_true (by omega)]
      · rw [decide_eq_false l, decide_eq_false (by omega)]
theorem fdL_same : ∀ xs : List Int, fdL xs xs = false
  | [] => rfl
  | x :: xs => by show (if x = x then fdL xs xs else _) = _; rw [if_pos rfl, fdL_same xs]
theorem ltK_ahead {cs' : List Col} {xs ys : List Int} (h : xs.length = ys.length) : ltK (keyT ⟨cs, xs⟩) (keyT ⟨cs', ys⟩) = aheadL xs ys := by
  unfold ltK keyT aheadL
  by_cases e : xs.sum = ys.sum
  · simp only [e, if_true]
    by_cases n : (xs.map fun n => -n) = ys.map fun n => -n
    · rw [if_pos n]
      have : xs = ys := by
        have := congrArg (List.map fun n : Int => -n) n
        simpa [List.map_map, Function.comp_def] using this
      rw [this, fdL_same]
    · rw [if_neg n]
      unfold ltI
      rw [List.length_map, List.length_map, h, Nat.min_self, decide_eq_false (Nat.lt_irrefl _)]
      have := lex_fdL ys.length xs ys 0 (by omega) (by omega)
      rw [this]; rfl
  · simp only [e, if_false]
/-! ### sums and differences -/
theorem sub_add : ∀ {xs ys : List Int}, xs.length = ys.length → subL (addL xs ys) xs = ys
  | [], [], _ => rfl
  | [], _ :: _, h => by cases h
  | _ :: _, [], h => by cases h
  | x :: xs, y :: ys, h => by
    have ih := sub_add (xs := xs) (ys := ys) (by simpa using h)
    unfold subL addL at ih ⊢
    rw [List.zip_cons_cons, List.map_cons, List.zip_cons_cons, List.map_cons, ih]
    congr 1
    show x + y - x = y
    omega
theorem le_add (h : OkT cs ns) {ms : List Int} (h' : OkT cs ms) : leL ns (addL ns ms) = true := by
  have : ∀ {xs ys : List Int}, (∀ n ∈ ys, 0 ≤ n) → leL xs (addL xs ys) = true := by
    intro xs
    induction xs with
    | nil => intro ys _; rfl
    | cons x xs ih =>
      intro ys hy
      cases ys with
      | nil => rfl
      | cons y ys =>
        have := ih (ys := ys) fun n hn => hy n (List.mem_cons_of_mem _ hn)
        unfold leL addL at this ⊢
        rw [List.zip_cons_cons, List.map_cons, List.zip_cons_cons, List.map_cons, List.all_cons, this]
        have h0 := hy y (by simp)
        show (decide (x ≤ x + y) && true) = true
        rw [decide_eq_true (by omega)]; rfl
  exact this h'.nn
theorem zip_len {xs ys : List Int} (f : Int × Int → Int) (h : xs.length = ys.length) : ((xs.zip ys).map f).length = xs.length := by rw [List.length_map, List.length_zip, h, Nat.min_self]
theorem add_lt {xs ys : List Int} {b c : Int} (h1 : ∀ n ∈ xs, n < b) (h2 : ∀ n ∈ ys, n < c) : ∀ n ∈ addL xs ys, n < b + c := fun n hn => by
  unfold addL at hn
  obtain ⟨p, hp, rfl⟩ := List.mem_map.mp hn
  have a1 := h1 _ (List.of_mem_zip hp).1
  have a2 := h2 _ (List.of_mem_zip hp).2
  omega
theorem zip_rng {xs ys : List Int} (h : xs.length = ys.length) {δ : Type} (f : Int → Int → δ) : (rng (xs.length : Int)).map (fun i => f (xs.getD i.toNat 0) (ys.getD i.toNat 0)) = (xs.zip ys).map fun p => f p.1 p.2 := by
  unfold rng
  rw [List.map_map, Int.toNat_natCast]
  refine List.ext_getElem? fun i => ?_
  by_cases hi : i < xs.length
  · have hi2 : i < ys.length := by omega
    rw [List.getElem?_map, List.getElem?_map, List.getElem?_range hi, (List.getElem?_zip_eq_some (z := (xs[i], ys[i]))).mpr ⟨List.getElem?_eq_getElem hi, List.getElem?_eq_getElem hi2⟩]
    show some (f (xs.getD ((i : Int).toNat) 0) (ys.getD ((i : Int).toNat) 0)) = some (f xs[i] ys[i])
    rw [Int.toNat_natCast, List.getD_eq_getElem?_getD, List.getD_eq_getElem?_getD, List.getElem?_eq_getElem hi, List.getElem?_eq_getElem hi2]; rfl
  · rw [List.getElem?_eq_none (by rw [List.length_map, List.length_range]; omega), List.getElem?_eq_none (by rw [List.length_map, List.length_zip]; omega)]
end
section
variable {W : Wd} {M : List Addr} {σ : L2.St} {H : Hp} {ta tb : TE} {E : XK} {cs : List Col} {ns : List Int}
theorem evr_min {m : Int} {P R : Int → Prop} (ha : Ev W M ta σ H m) (hb : EvR W M tb σ H P) (h : ∀ n, P n → R (if n < m then n else m)) : EvR W M (tCB rMin2 (tCons ta (tCons tb tNil))) σ H R := fun H1 e ok Q q =>
  ha H1 e ok _ fun v H2 e2 r => hb H2 (e.trans e2) (ok.ex e2) _ fun u n H3 pn e3 r3 => ⟨m, n, by rw [show v = .int m from r, show u = .int n from r3], q _ _ H3 (h n pn) (e2.trans e3) rep_int⟩
/-- Table.read(menu, text) -/
theorem ev_tread (ha : Ev W M ta σ H (Menu.mk cs)) (hb : Ev W M tb σ H (tabText cs ns)) (hT : OkT cs ns) (h30 : ∀ n ∈ ns, n < 10 ^ 30) : Ev W M (ClX.tCMeth (W.C "Table") (sp_Table_read W.K W.C) E (tC (.ref (W.C "Table"))) (tCons ta (tCons tb tNil))) σ H (Table.mk cs ns) := fun H1 e ok Q q =>
  ⟨rfl, ha H1 e ok _ fun v H2 e2 r => hb H2 (e.trans e2) (ok.ex e2) _ fun u H3 e3 r3 => by
    cases (show u = .str (tabText cs ns) from r3)
    exact ⟨W, M, v, ⟨cs⟩, ns, rfl, rfl, rfl, (ok.ex e2).ex e3, r.up e3, hT, h30, fun r H4 e4 rr => q r H4 ((e2.trans e3).trans e4) rr⟩⟩
end
/-! ### the promises -/
section
variable {α β γ δ ε : Type} [Py α] [Py β] [Py γ] [Py δ] [Py ε]
def B4 (K : PySem.W.Frag) (C : Str → Addr) (pre : α → β → γ → δ → Prop) (R : ε → Prop) : Sp := fun vs H Q _ => ∃ (W : Wd) (M : List Addr) (v u w x : V) (a : α) (b : β) (c : γ) (d : δ), W.K = K ∧ W.C = C ∧ vs = [.ref W.b, v, u, w, x] ∧ Ok W M H ∧ Rep W M H v a ∧ Rep W M H u b ∧ Rep W M H w c ∧ Rep W M H x d ∧ pre a b c d ∧
  ∀ r t H', R t → Ex W [] H H' → Rep W M H' r t → Q r H'
theorem evr_b4 {W : Wd} {M : List Addr} {σ : L2.St} {H : Hp} {ta tb tc td : TE} {E : XK} {i : Nat} {pre : α → β → γ → δ → Prop} {R : ε → Prop} {a : α} {b : β} {c : γ} {d : δ} (hb : Bs W σ i) (h1 : Ev W M ta σ H a) (h2 : Ev W M tb σ H b) (h3 : Ev W M tc σ H c) (h4 : Ev W M td σ H d) (hp : pre a b c d) :
    EvR W M (tCall (B4 W.K W.C pre R) [] E (tCons (tVar i) (tCons ta (tCons tb (tCons tc (tCons td tNil)))))) σ H R := fun H1 e ok Q q =>
  ⟨.ref W.b, hb, h1 H1 e ok _ fun v H2 e2 r => h2 H2 (e.trans e2) (ok.ex e2) _ fun u H3 e3 r3 => h3 H3 ((e.trans e2).trans e3) ((ok.ex e2).ex e3) _ fun w H4 e4 r4 => h4 H4 (((e.trans e2).trans e3).trans e4) (((ok.ex e2).ex e3).ex e4) _ fun x H5 e5 r5 =>
    ⟨W, M, v, u, w, x, a, b, c, d, rfl, rfl, rfl, (((ok.ex e2).ex e3).ex e4).ex e5, ((r.up e3).up e4).up e5, (r3.up e4).up e5, r4.up e5, r5, hp, fun r t H6 ht e6 rr => q r t H6 ht ((((e2.trans e3).trans e4).trans e5).trans e6) rr⟩⟩
end
section
variable (K : PySem.W.Frag) (C : Str → Addr)
abbrev sp_law_counts : Sp := B2 K C (fun many most : Int => 0 ≤ many ∧ many ≤ 1000 ∧ 1 ≤ most ∧ most ≤ 1000000) fun many most (ys : List Int) => (ys.length : Int) = many ∧ ∀ n ∈ ys, 0 ≤ n ∧ n ≤ most
abbrev sp_law_numbers : Sp := F2 K C OkT numbersD
abbrev sp_law_table_text : Sp := F2 K C (fun (cs : List Col) (ns : List Int) => OkT cs ns ∧ ∀ n ∈ ns, n < 10 ^ 40) tabText
abbrev sp_law_made_table : Sp := F3 K C (fun (m : Menu) (cs : List Col) (ns : List Int) => m.cols = cs ∧ OkT cs ns ∧ ∀ n ∈ ns, n < 10 ^ 30) fun _ cs ns => Table.mk cs ns
abbrev sp_law_ahead : Sp := F2 K C (fun xs ys : List Int => xs.length = ys.length ∧ xs.length ≤ 1000) aheadL
abbrev sp_law_table_right : Sp := B4 K C (fun (t : Table) (cs : List Col) (ns : List Int) (m : Menu) => t = ⟨cs, ns⟩ ∧ OkT cs ns ∧ (∀ n ∈ ns, n < 10 ^ 30) ∧ m.cols = cs) (fun b : Bool => b = true)
abbrev sp_law_two_right : Sp := B4 K C (fun (ts : List Table) (cs : List Col) (lots : List (List Int)) (m : Menu) => m.cols = cs ∧ ∃ a b, ts = [⟨cs, a⟩, ⟨cs, b⟩] ∧ lots = [a, b] ∧ OkT cs a ∧ OkT cs b ∧ (∀ n ∈ a, n < 10 ^ 20) ∧ ∀ n ∈ b, n < 10 ^ 20) (fun b : Bool => b = true)
def sp_law_menu_asked : Sp := fun vs H Q _ => ∃ (W : Wd) (v u : V) (cs : List Col), W.K = K ∧ W.C = C ∧ vs = [.ref W.b, v, u] ∧ Ok W [] H ∧ Rep W [] H v cs ∧ Rep W [] H u (Menu.mk cs) ∧ Plain cs ∧ prod cs ≤ 12 ∧ ∀ H', Ex W [] H H' → Q (.bl true) H'
end
end RG
namespace RG
open PySem PySem.Spec PyProof.Rows L2 StX RZ TL
section
variable {α β γ : Type} [Py α] [Py β] [Py γ] {W : Wd} {M M' N : List Addr} {σ σ' : L2.St} {H H1 H2 H' : Hp} {te ta tb tc tl : TE} {E : XK} {D : Ends} {i k : Nat} {vs : List Nat} {v : V}
/-- [f for x in a list known by a word] -/
theorem evr_lcR {P : List α → Prop} {f : α → β} (h : EvR W M tl σ H P) (hl : ∀ xs, P xs → xs.length ≤ 1000000) (hk : k ∈ vs)
    (he : ∀ xs (i : Nat) (x : α) v M' H', P xs → xs[i]? = some x → Le (cut W M H) (cut W M' H') → Rep W M' H' v x → Ev W M' te ((wipe σ vs).set k (some v)) H' (f x)) :
    EvR W M (tLc (iList W.K tl) (gName k) tYes te vs) σ H (fun ys => ∃ xs, P xs ∧ ys = xs.map f) := fun H1 e ok Q q => by
  refine h H1 e ok _ fun v y H2 py e2 r2 => ?_
  have e12 := e.trans e2
  refine (ev_lc (W := W) (M := M) (H := H2) (wi := iList W.K (fun _ H Q => Q v H)) (f := f) (ei_list (fun H3 e3 ok3 Q q => q v H3 Ex.refl (r2.up e3))) (hl y py) hk fun i x v M' H' hx l r => he y i x v M' H' py hx (e12.up.le.trans l) r) H2 Ex.refl (ok.ex e2) Q fun w H3 e3 r3 => q w _ H3 ⟨y, py, rfl⟩ (e2.trans e3) r3
/-- an item of a list whose items are of several kinds -/
theorem ev_raw {g : Addr} {us : List V} {n : Int} {w : V} {x : α} (hs : σ[i]? = some (some (.ref g))) (hg : H g = some (.lst us)) (nb : g ≠ W.b) (hu : atI us n = some w) (r : Rep W M H w x) : Ev W M (tOp (rIxL W.K) (tVar i) (tC (.int n))) σ H x := fun H1 e ok Q q =>
  ⟨.ref g, hs, g, us, n, w, rfl, rfl, SqL.of (e.keep _ _ nb (by simp) hg), hu, q w H1 Ex.refl (r.up e)⟩
/-- data without lists and dicts live on when one of these is changed -/
theorem Rep.fyU [Fyz α] {x : α} {a : Addr} {o u : HO} (r : Rep W M H v x) (ha : H a = some o) (no : ¬ Fy o) : Rep W M (upd H a u) v x :=
  Fyz.fy (fun b w hb hf => by
    obtain ⟨h1, h2, h3⟩ := cut_some.mp hb
    refine cut_some.mpr ⟨h1, h2, ?_⟩
    have : b ≠ a := fun e => by
      rw [e, ha] at h3
      cases h3
      exact no hf
    rw [upd_ne this]; exact h3) r
theorem not_fyL {xs : List V} : ¬ Fy (.lst xs) := fun h => h.1 _ rfl
theorem not_fyD {xs : List (List L2.Key × V)} : ¬ Fy (.dT xs) := fun h => h.2 _ rfl
theorem pd_fyU [Fyz α] {a : Addr} {o u : HO} (ha : H a = some o) (no : ¬ Fy o) : ∀ {vs : List V} {xs : List α}, Paired (Rep W M H) vs xs → Paired (Rep W M (upd H a u)) vs xs
  | _, _, .nil => .nil
  | _, _, .cons r t => .cons (r.fyU ha no) (pd_fyU ha no t)
/-- a list of such data is told, when another list or dict is changed -/
theorem Rep.fyL [Fyz α] {xs : List α} {a L : Addr} {o u : HO} (r : Rep W M H (.ref L) xs) (ha : H a = some o) (no : ¬ Fy o) (hn : a ≠ L) : Rep W M (upd H a u) (.ref L) xs := by
  obtain ⟨b, us, e, hh, nb, nm, pp⟩ := r.lst
  cases e
  exact rep_lst (by rw [upd_ne (Ne.symm hn)]; exact hh) nb nm (pd_fyU ha no pp)
/-- xs.append(x), xs new since G -/
theorem s_appFy [Fyz α] {xs : List α} {x : α} {G : Hp} {L : Addr} (okG : Ok W [] G) (hL : G L = none) (eG : Ex W [] G H) (ok : Ok W [] H) (hs : σ[k]? = some (some (.ref L))) (r : Rep W [] H (.ref L) xs) (hl : xs.length ≤ 1000) (h : Ev W [] te σ H x)
    (q : ∀ H', Ex W [] G H' → Ok W [] H' → Rep W [] H' (.ref L) (xs ++ [x]) → D.nx σ H') : tDrop (tBM W.K "list" rAppend (tVar k) (tCons te tNil)) D σ H := by
  obtain ⟨b, us, e, hh, nb, nm, pp⟩ := r.lst
  cases e
  refine ⟨.ref L, hs, .inl ⟨rfl, us, SqL.of hh⟩, h H Ex.refl ok _ fun v H2 e2 r2 => ?_⟩
  have hh2 := e2.keep _ _ nb (by simp) hh
  refine ⟨L, us, v, rfl, rfl, hh2, sl (by rw [Pd.length pp]; omega), ?_⟩
  have eg := (eG.trans e2).mut0 (o := .lst (us ++ [v])) okG hL
  exact q _ eg (okG.ex eg) (rep_lst upd_same nb nm (Pd.append (pd_fyU hh2 not_fyL (Pd.mono pp fun _ _ r => r.up e2)) (.cons (r2.fyU hh2 not_fyL) .nil)))
/-- a list of lists of numbers -/
theorem il_out {L : Addr} {us : List V} {q : Addr} {w : V} {c : List Int} (hL : H L = some (.lst us)) (hq : V.ref q ∈ us) (h : Rep W M H w c) : Rep W (L :: M) H w c := by
  obtain ⟨a, vs, rfl, hh, nb, nm, pp⟩ := h.lst
  have e := paired_toV pp
  have hn : a ≠ L := fun z => by
    rw [z, hL] at hh
    cases hh
    rw [e] at hq
    obtain ⟨n, _, hn⟩ := List.mem_map.mp hq
    cases hn
  refine rep_lst hh nb (fun hm => (List.mem_cons.mp hm).elim hn nm) ?_
  rw [e]; exact toV_paired
theorem pd_il {L : Addr} {us : List V} {q : Addr} (hL : H L = some (.lst us)) (hq : V.ref q ∈ us) : ∀ {ws : List V} {xs : List (List Int)}, Paired (Rep W M H) ws xs → Paired (Rep W (L :: M) H) ws xs
  | _, _, .nil => .nil
  | _, _, .cons r t => .cons (il_out hL hq r) (pd_il hL hq t)
theorem s_appLL {a b : List Int} {P : List Int → Prop} {G : Hp} {L : Addr} (okG : Ok W [] G) (hL : G L = none) (eG : Ex W [] G H) (ok : Ok W [] H) (hs : σ[k]? = some (some (.ref L))) (r : Rep W [] H (.ref L) [a, b]) (h : EvR W [] te σ H P)
    (q : ∀ c H', P c → Ex W [] G H' → Ok W [] H' → Rep W [] H' (.ref L) [a, b, c] → D.nx σ H') : tDrop (tBM W.K "list" rAppend (tVar k) (tCons te tNil)) D σ H := by
  obtain ⟨b', us, e, hh, nb, nm, pp⟩ := r.lst
  cases e
  refine ⟨.ref L, hs, .inl ⟨rfl, us, SqL.of hh⟩, h H Ex.refl ok _ fun v c H2 pc e2 r2 => ?_⟩
  have hh2 := e2.keep _ _ nb (by simp) hh
  have hq : ∃ q, V.ref q ∈ us := by
    cases pp with
    | cons r _ =>
      obtain ⟨x, _, rfl, _⟩ := r.lst
      exact ⟨x, by simp⟩
  obtain ⟨x, hq⟩ := hq
  refine ⟨L, us, v, rfl, rfl, hh2, sl (by rw [Pd.length pp]; show 2 ≤ 1000000; decide), ?_⟩
  have eg := (eG.trans e2).mut0 (o := .lst (us ++ [v])) okG hL
  have em : Ex W [L] H2 (upd H2 L (.lst (us ++ [v]))) := Ex.mut nb (okG.new_bl hL) (by simp)
  have pa : Paired (Rep W [L] H2) (us ++ [v]) [a, b, c] := Pd.append (xs := us) (ys := [a, b]) (pd_il hh2 hq (Pd.mono pp fun _ _ r => r.up e2)) (.cons (il_out hh2 hq r2) .nil)
  exact q c _ pc eg (okG.ex eg) (rep_lst upd_same nb nm (Pd.mono pa fun _ _ r => (r.ex em).subM (by simp)))
theorem evn_list {xs : List α} (ha : Ev W M ta σ H xs) : EvN W M (tCB (rListOf W.K) (tCons ta tNil)) σ H xs := fun H1 e ok Q q =>
  ha H1 e ok _ fun v H2 e2 r => by
    obtain ⟨a, vs, ev, hh, _, _, pp⟩ := r.lst
    exact ⟨a, vs, by rw [ev], .inl (SqL.of hh), fun l hl => q _ _ (e2.free hl) (e2.trans (Ex.new hl)) (rep_lst upd_same ((ok.ex e2).new_b hl) ((ok.ex e2).new_M hl) (Pd.mono pp fun _ _ r => r.up (Ex.new hl)))⟩
/-- a new dict, one of several -/
def EvD (W : Wd) (M : List Addr) (te : TE) (σ : L2.St) (H : Hp) (P : Di → Prop) : Prop :=
  ∀ H1, Ex W [] H H1 → Ok W M H1 → ∀ Q : VK, (∀ d x H2, P x → H1 d = none → Ex W [] H1 H2 → H2 d = some (.dT (encD x.kvs)) → Q (.ref d) H2) → te σ H1 Q
theorem evd_pairs {P : List (TupK × Int) → Prop} (ha : EvR W M ta σ H P) (hn : ∀ ps, P ps → (ps.map (·.1)).Nodup) : EvD W M (tCB (rDictPairs W.K) (tCons ta tNil)) σ H (fun x => ∃ ps, P ps ∧ x = Di.mk (ps.map fun p => (p.1.l, p.2))) := fun H1 e ok Q q =>
  ha H1 e ok _ fun v ps H2 pp0 e2 r => by
    obtain ⟨a, vs, rfl, hh, _, _, pp⟩ := r.lst
    obtain ⟨ts, kqs, e1, e3, e4, e5⟩ := pairs_kq pp
    have hlk : kqs.length = ps.length := by have := congrArg List.length e3; simpa using this
    refine ⟨a, ts, kqs, ps.map fun p => V.int p.2, rfl, SqL.of (by rw [hh, e1]), e5 _, e4, by rw [List.length_map, hlk], ?_, fun p hp => ?_⟩
    · have := nodup_inr (hn ps pp0)
      rw [List.map_map] at this
      rw [e3]; exact this
    · have ez : (kqs.map (·.1)).zip (ps.map fun p => V.int p.2) = encD (ps.map fun p => (p.1.l, p.2)) := by rw [e3]; exact enc_pairs ps
      rw [ez]
      exact q p _ _ ⟨ps, pp0, rfl⟩ (e2.free hp) (e2.trans (Ex.new hp)) upd_same
theorem EvD.imp {P R : Di → Prop} (h : EvD W M te σ H P) (hp : ∀ x, P x → R x) : EvD W M te σ H R := fun H1 e ok Q q => h H1 e ok Q fun d x H2 px hd e2 h2 => q d x H2 (hp x px) hd e2 h2
/-- xs = [f for ..], with a word of all that it holds, and the new list's address -/
theorem s_lcP {xs : List α} {P : Nat → List β → Prop} {wi : TI} {f : Nat} (ok : Ok W M H) (hi : Ei W M wi σ H xs) (hl : xs.length ≤ 1000000) (hk : k ∈ vs) (h0 : P 0 [])
    (he : ∀ (i : Nat) (x : α) v M' H' ys, xs[i]? = some x → Le (cut W M H) (cut W M' H') → Ok W M' H' → Rep W M' H' v x → P i ys → EvR W M' te ((wipe σ vs).set k (some v)) H' (fun y => P (i + 1) (ys ++ [y])))
    (q : ∀ L ys H', P xs.length ys → H L = none → Ex W [] H H' → Ok W M H' → Rep W M H' (.ref L) ys → D.nx (σ.set f (some (.ref L))) H') : tAsg (tLc wi (gName k) tYes te vs) (gName f) D σ H :=
  lc_acc (P := P) hi hl h0 (fun i x v M' H' us ys hx le ok' r hP pp K hK => hK ((wipe σ vs).set k (some v)) (by rw [wipe_set hk, wipe_wipe]) (he i x v M' H' ys hx le ok' r hP)) Ex.refl ok fun L ys H2 hP hL e2 r2 => q L ys H2 hP hL e2 (ok.ex e2) r2
/-- xs = [a new dict, a new list] -/
theorem s_given {P : Di → Prop} {ys : List Int} (ok : Ok W [] H) (h1 : EvD W [] ta σ H P) (h2 : EvN W [] tb σ H ys)
    (q : ∀ d p g x H', P x → H d = none → H p = none → H g = none → Ex W [] H H' → Ok W [] H' → H' d = some (.dT (encD x.kvs)) → H' p = some (.lst (ys.map V.int)) → H' g = some (.lst [.ref d, .ref p]) → D.nx (σ.set k (some (.ref g))) H') :
    tAsg (tLst (tCons ta (tCons tb tNil))) (gName k) D σ H := by
  refine h1 H Ex.refl ok _ fun d x H1 px hd e1 hd1 => ?_
  have ok1 := ok.ex e1
  refine h2 H1 e1 ok1 _ fun p H2 hp e2 r2 => ⟨by show 2 ≤ sizeLine; decide, fun g hg => ?_⟩
  obtain ⟨a, vs, ea, hh, nb, nm, pp⟩ := r2.lst
  cases ea
  have e := paired_toV pp
  have ok2 := ok1.ex e2
  have hd2 := e2.keep _ _ (ok.new_b hd) (by simp) hd1
  refine q d p g x _ px hd (e1.free hp) ((e1.trans e2).free hg) ((e1.trans e2).trans (Ex.new hg)) (ok2.ex (Ex.new (M := []) hg)) ?_ ?_ upd_same
  · rw [upd_ne (fun z => by rw [z, hg] at hd2; cases hd2)]; exact hd2
  · rw [upd_ne (fun z => by rw [z, hg] at hh; cases hh), hh, e]; rfl
/-- given != [numbers, counts], which hold the same -/
theorem ev_neG {d p g : Addr} {x x' : Di} {ns : List Int} (ok0 : Ok W [] H) (hs : σ[i]? = some (some (.ref g))) (hg : H g = some (.lst [.ref d, .ref p])) (hd : H d = some (.dT (encD x.kvs))) (hp : H p = some (.lst (ns.map V.int))) (ng : g ≠ W.b) (nd : d ≠ W.b) (np : p ≠ W.b)
    (ha : Ev W [] ta σ H x') (hb : Ev W [] tb σ H ns) (hl : x.kvs.length = x'.kvs.length) (hm : ∀ z ∈ x.kvs, z ∈ x'.kvs) : Ev W [] (tOp (rNeG W.K) (tVar i) (tLst (tCons ta (tCons tb tNil)))) σ H false := fun H1 e ok Q q =>
  ⟨.ref g, hs, ha H1 e ok _ fun v H2 e2 r => hb H2 (e.trans e2) (ok.ex e2) _ fun u H3 e3 r3 => ⟨by show 2 ≤ sizeLine; decide, fun b hb' => by
    obtain ⟨d', rfl, hd', nd', _⟩ := (r.up e3).di
    obtain ⟨p', vs, rfl, hp', np', _, pp⟩ := r3.lst
    have e4 : Ex W [] H3 (upd H3 b (.lst [.ref d', .ref p'])) := Ex.new hb'
    have ee := ((e.trans e2).trans e3).trans e4
    refine ⟨g, b, d, d', p, p', x.kvs, x'.kvs, ns, rfl, rfl, SqL.of (ee.keep _ _ ng (by simp) hg), SqL.of upd_same, ee.keep _ _ nd (by simp) hd, e4.keep _ _ nd' (by simp) hd', SqL.of (ee.keep _ _ np (by simp) hp), SqL.of ?_, hl, hm, q _ _ ((e2.trans e3).trans e4) rep_bl⟩
    have := e4.keep _ _ np' (by simp) hp'
    rw [paired_toV pp] at this
    exact this⟩⟩
/-- xs[0].clear() and xs[1].append(n), both new since G -/
theorem s_clear {d p g : Addr} {l : List (List Str × Int)} {G : Hp} (okG : Ok W [] G) (hG : G d = none) (eG : Ex W [] G H) (hs : σ[i]? = some (some (.ref g))) (hg : H g = some (.lst [.ref d, .ref p])) (hd : H d = some (.dT (encD l)))
    (q : Ex W [] G (upd H d (.dT [])) → D.nx σ (upd H d (.dT []))) : tDrop (tBM0 W.K "dict" rClearT (tOp (rIxL W.K) (tVar i) (tC (.int 0)))) D σ H :=
  ⟨.ref g, hs, g, _, 0, .ref d, rfl, rfl, SqL.of hg, rfl, .inr (.inr (.inl ⟨rfl, .inr ⟨_, hd⟩⟩)), d, _, rfl, rfl, hd, q (eG.mut0 okG hG)⟩
theorem s_app1 {d p g : Addr} {us : List V} {n : Int} {G : Hp} (okG : Ok W [] G) (hG : G p = none) (eG : Ex W [] G H) (hs : σ[i]? = some (some (.ref g))) (hg : H g = some (.lst [.ref d, .ref p])) (hp : H p = some (.lst us)) (hl : us.length ≤ 1000)
    (q : Ex W [] G (upd H p (.lst (us ++ [.int n]))) → D.nx σ (upd H p (.lst (us ++ [.int n])))) : tDrop (tBM W.K "list" rAppend (tOp (rIxL W.K) (tVar i) (tC (.int 1))) (tCons (tC (.int n)) tNil)) D σ H :=
  ⟨.ref g, hs, g, _, 1, .ref p, rfl, rfl, SqL.of hg, rfl, .inl ⟨rfl, us, SqL.of hp⟩, p, us, .int n, rfl, rfl, hp, sl (by omega), q (eG.mut0 okG hG)⟩
/-- {} -/
theorem ev_dnew : Ev W M tDNewT σ H (Di.mk []) := fun H1 e ok Q q p hp => q _ _ (Ex.new hp) (rep_di upd_same (ok.new_b hp) (ok.new_M hp))
theorem ev_asked {cs : List Col} (hb : Bs W σ i) (ha : Ev W [] ta σ H cs) (hm : Ev W [] tb σ H (Menu.mk cs)) (hP : Plain cs) (hp : prod cs ≤ 12) : Ev W [] (tCall (sp_law_menu_asked W.K W.C) [] E (tCons (tVar i) (tCons ta (tCons tb tNil)))) σ H true := fun H1 e ok Q q =>
  ⟨.ref W.b, hb, ha H1 e ok _ fun v H2 e2 r => hm H2 (e.trans e2) (ok.ex e2) _ fun u H3 e3 r3 => ⟨W, v, u, cs, rfl, rfl, rfl, (ok.ex e2).ex e3, r.up e3, r3, hP, hp, fun H4 e4 => q _ H4 ((e2.trans e3).trans e4) rep_bl⟩⟩
end
section
variable {α β γ : Type} [Py α] [Py β] [Py γ] {W : Wd} {M M' N : List Addr} {σ σ' : L2.St} {G H H1 H2 H' : Hp} {te ta tb tc tl : TE} {D : Ends} {i k : Nat}
/-- xs = [a, b], each one of several, the new list's address told -/
theorem s_lst2R {P R : α → Prop} (ok : Ok W M H) (ha : EvR W M ta σ H P) (hb : EvR W M tb σ H R) (q : ∀ v u x y p H', P x → R y → Ex W [] H H' → Ok W M H' → Rep W M H' v x → Rep W M H' u y → H' p = none → D.nx (σ.set k (some (.ref p))) (upd H' p (.lst [v, u]))) : tAsg (tLst (tCons ta (tCons tb tNil))) (gName k) D σ H :=
  ha H Ex.refl ok _ fun v x H2 px e2 r => hb H2 e2 (ok.ex e2) _ fun u y H3 py e3 r3 => ⟨by show 2 ≤ sizeLine; decide, fun p hp => q v u x y p H3 px py (e2.trans e3) ((ok.ex e2).ex e3) (r.up e3) r3 hp⟩
/-- if a drawn number == n: .., both ways meet again -/
theorem s_ifEqJ {P : Int → Prop} {n : Int} {J : L2.St → Hp → Prop} {t1 : TS} (ok : Ok W M H) (h : EvR W M ta σ H P) (hJ : ∀ σ' H', J σ' H' → D.nx σ' H') (h1 : (∀ σ' H', J σ' H' → D.nx σ' H') → ∀ H', Ex W [] H H' → Ok W M H' → t1 D σ H') (h2 : ∀ H', Ex W [] H H' → Ok W M H' → J σ H') :
    tIfS (tTest (tOp rEq ta (tC (.int n)))) t1 tNext D σ H :=
  h H Ex.refl ok _ fun v x H2 px e2 r2 => s_ifc (tt := tTest (tOp rEq (fun _ H Q => Q v H) (tC (.int n)))) (ok.ex e2) (et_t (ev_eq (x := x) (fun H3 e3 ok3 Q q => q v H3 Ex.refl (r2.up e3)) (ev_int (n := n)))) hJ (fun hJ _ H3 e3 ok3 => h1 hJ H3 (e2.trans e3) ok3) fun _ H3 e3 ok3 => h2 H3 (e2.trans e3) ok3
theorem Ex.dropM {p : Addr} (e : Ex W [] G H) (e2 : Ex W [p] H H') (hp : G p = none) : Ex W [] G H' :=
  ⟨fun a o n _ h => e2.keep a o n (fun hm => by rw [List.mem_singleton.mp hm, hp] at h; cases h) (e.keep a o n (by simp) h), fun a h => e2.some_ a (e.some_ a h), fun z => e2.bag (e.bag z)⟩
/-- xs[0] = e -/
theorem s_set0 {p : Addr} {v0 v1 : V} {x : α} (ok : Ok W [p] H) (hs : σ[k]? = some (some (.ref p))) (nb : p ≠ W.b) (nbl : p ≠ W.bl) (hp : H p = some (.lst [v0, v1])) (h : Ev W [p] te σ H x)
    (q : ∀ w H', Ex W [p] H H' → H' p = some (.lst [w, v1]) → Rep W [p] H' w x → D.nx σ H') : tAsg te (gSub (tVar k) (tC (.int 0)) rSetL) D σ H := by
  refine h H Ex.refl ok _ fun w H2 e2 r => ?_
  have em : Ex W [p] H2 (upd H2 p (.lst [w, v1])) := Ex.mut nb nbl (by simp)
  exact ⟨.ref p, hs, p, [v0, v1], 0, 0, rfl, rfl, e2.keep _ _ nb (by simp) hp |>.trans rfl, rfl, q w _ (e2.up.trans em) upd_same (r.ex em)⟩
end
/-- the first column's first worth is another one -/
theorem word_plain {c : Col} {cs : List Col} {z : Str} (h : Plain (c :: cs)) (hz : z = "put" ∨ z = "nothing") (hn : z ∉ c.2) : Plain ((c.1, z :: c.2.drop 1) :: cs) ∧ prod ((c.1, z :: c.2.drop 1) :: cs) = prod (c :: cs) := by
  have hc := h.col c (by simp)
  have hl : (z :: c.2.drop 1).length = c.2.length := by have := hc.l1; rw [List.length_cons, List.length_drop]; omega
  have hw : isWorth z = true ∧ z ≠ ("n0" : Str) := by
    rcases hz with rfl | rfl <;> decide +kernel
  have ok : ColOk (c.1, z :: c.2.drop 1) := ⟨hc.name, by show 1 ≤ (z :: c.2.drop 1).length; rw [hl]; exact hc.l1, by show (z :: c.2.drop 1).length ≤ 12; rw [hl]; exact hc.l12, List.nodup_cons.mpr ⟨fun hm => hn (List.mem_of_mem_drop hm), hc.nd.sublist (List.drop_sublist _ _)⟩, fun y hy => by
    rcases List.mem_cons.mp hy with rfl | hy
    · exact hw
    · exact hc.ws y (List.mem_of_mem_drop hy)⟩
  have hN := (Plain.near h).set (i := 0) (c := c) (c' := (c.1, z :: c.2.drop 1)) rfl ok hl
  have hN : NearOk (c :: cs) ((c.1, z :: c.2.drop 1) :: cs) := hN
  exact ⟨hN.plain h h.nd, hN.pr⟩
/-! ### a dict told again, its keys mixed -/
theorem self_lookup : ∀ {l : List (List Str × Int)}, (l.map (·.1)).Nodup → l.map (fun p => (p.1, (l.lookup p.1).getD 0)) = l := fun {l} h => by
  refine Eq.trans (List.map_congr_left fun p hp => ?_) (List.map_id l)
  rw [mem_lookup h (show (p.1, p.2) ∈ l from hp)]; rfl
theorem mixed_dict {x : Di} {xs : List TupK} (hn : (x.kvs.map (·.1)).Nodup) (hp : xs.Perm (x.kvs.map fun p => TupK.mk p.1)) : ((xs.map fun k => (k, (x.kvs.lookup k.l).getD 0)).map fun p : TupK × Int => (p.1.l, p.2)).Perm x.kvs := by
  have h := hp.map fun k : TupK => (k.l, (x.kvs.lookup k.l).getD 0)
  rw [List.map_map] at h ⊢
  refine h.trans ?_
  have e : (x.kvs.map ((fun k : TupK => (k.l, (x.kvs.lookup k.l).getD 0)) ∘ fun p => TupK.mk p.1)) = x.kvs := self_lookup hn
  rw [e]
theorem nodup_tk {l : List (List Str × Int)} (h : (l.map (·.1)).Nodup) : (l.map fun p => TupK.mk p.1).Nodup := by
  unfold List.Nodup at h ⊢
  rw [List.pairwise_map] at h ⊢
  exact h.imp fun h e => h (TupK.mk.inj e)
theorem perm_lookup {l l' : List (List Str × Int)} (hn : (l.map (·.1)).Nodup) (hp : l'.Perm l) (k : List Str) : l'.lookup k = l.lookup k := by
  have hn' : (l'.map (·.1)).Nodup := (hp.map (·.1)).nodup_iff.mpr hn
  cases e : l.lookup k with
  | some n => exact mem_lookup hn' (hp.mem_iff.mpr (lookup_mem e))
  | none =>
    cases e' : l'.lookup k with
    | none => rfl
    | some n => rw [mem_lookup hn (hp.mem_iff.mp (lookup_mem e'))] at e; cases e
theorem perm_okD {m : Menu} {x x' : Di} (h : OkD m x) (hp : x'.kvs.Perm x.kvs) : OkD m x' := ⟨h.pl, h.p12, (hp.map (·.1)).nodup_iff.mpr h.nd, fun p hm => h.mem p (hp.mem_iff.mp hm), by rw [hp.length_eq]; exact h.len⟩
theorem perm_tab {m : Menu} {x x' : Di} (h : OkD m x) (hp : x'.kvs.Perm x.kvs) : tabOf m x' = tabOf m x := by
  unfold tabOf
  congr 1
  exact List.map_congr_left fun k _ => by rw [perm_lookup h.nd hp]
theorem rep_flat {n : Int} : ∀ k : Nat, (List.replicate k [n]).flatten = List.replicate k n
  | 0 => rfl
  | k + 1 => by rw [List.replicate_succ, List.flatten_cons, rep_flat k, List.replicate_succ]; rfl
theorem add_rep {m n : Int} : ∀ k : Nat, addL (List.replicate k m) (List.replicate k n) = List.replicate k (m + n)
  | 0 => rfl
  | k + 1 => by
    have ih := add_rep (m := m) (n := n) k
    unfold addL at ih ⊢
    rw [List.replicate_succ, List.replicate_succ, List.replicate_succ, List.zip_cons_cons, List.map_cons, ih]
theorem okT_rep {cs : List Col} {n : Int} (hP : Plain cs) (hp : prod cs ≤ 12) (h : 0 ≤ n) : OkT cs (List.replicate (kinds cs).length n) := ⟨hP, hp, by rw [List.length_replicate], fun m hm => by rw [List.eq_of_mem_replicate hm]; exact h⟩
end RG
namespace RG
open PySem PySem.Spec PyProof.Rows L2 StX RZ TL
def topS (i : Nat) : Stmt := PySem.Challenge.pw_rowsgone_k18_tables_put_together.main.body.getD i (.Pass ⟨0, 0, 0, 0⟩)
section
variable {P : Program} {w : World} {K : PySem.W.Frag} {mg : Str → Option Value} {base : Heap} {C : Str → Addr}

abbrev s_is_name : Stmt := topS 25
theorem sc_is_name : FnScope ["value", "sign"] ["value"] (defScope s_is_name) := ⟨rfl, rfl, rfl, by decide +kernel, rfl, by decide +kernel, by decide +kernel⟩

theorem ok_is_name {f : Addr} {fd : FuncData} (F : Fun K "is_name" "is_name" s_is_name f fd) (bt : Bt mg)
    (g_LETTERS : ∃ t, mg "LETTERS" = some (.str "abcdefghijklmnopqrstuvwxyz" t))
    (g_LONGEST : ∃ t, mg "LONGEST" = some (.int 8 t)) :
    FnOk P w K mg base CX0 1 f fd ["value"] (sp_is_name K C) := by
  refine F.ok sc_is_name (fun vs H Q E h => ?_) (fun cdv A outer s H vs Q E hr h => ?_)
  · obtain ⟨W, M, v, z, _, _, rfl, _⟩ := h; rfl
  · obtain ⟨W, M, v, z, rfl, rfl, rfl, ok, r, hz, k⟩ := h
    have S0 : Sl W M (start ["value", "sign"] [v]) H 0 z := ⟨v, rfl, r⟩
    refine ⟨_, (pss_one (ps_ret (pe_and (pe_callB call_isi (by rfl) bt.isinstance_ (by decide +kernel) (pa_cons (pv 0) (pa_cons (pe_bltn (v := .ty "str") (by rfl) bt.str_ (by decide +kernel) rfl) pa_nil))) (pe_and (pe_chain op_le op_le pe_int (pe_callB cLenX (by rfl) bt.len_ (by decide +kernel) (pa_cons (pv 0) pa_nil)) (pe_gI rfl g_LONGEST)) (pe_one (pe_callB (cr_all rfl) (by rfl) bt.all_ (by decide +kernel) (pa_cons (pe_lc (own := [("sign", 1)]) (g := gName 1) rfl sc_is_name.nd (pi_str (pv 0)) (blkOk_by (own := [("sign", 1)]) (N := ["value", "sign"]) (sc := defScope s_is_name) (by decide +kernel)) (fun _ _ _ _ _ => (pg_name (i := 1) sc_is_name.nd rfl (Or.inl rfl))) (fun _ _ _ _ _ => pts_nil) (fun _ _ _ _ _ => (pe_cmpR op_inS (pv 1) (pe_gS rfl g_LETTERS) (by rfl)))) pa_nil))))))), ?_⟩
    refine s_ret ok (ev_and (ev_isStr (ev_var S0)) fun _ => ev_and (ev_chain ev_int (ev_lenX (ev_var S0) (by omega)) ev_int) fun _ =>
      ev_all (ev_lc (ei_str (ev_var S0)) (by rw [signs_len]; exact Nat.le_trans hz (by decide)) (by decide) fun i s v M' H' hi l r => ev_inS (ev_var (Sl.me r)) ev_str ?_)) fun v H' e r => k v H' e r
    obtain ⟨c, e, _⟩ := signs_one (List.mem_of_getElem? hi)
    exact ⟨c, e⟩

abbrev s_is_worth : Stmt := topS 26
theorem sc_is_worth : FnScope ["value", "sign"] ["value"] (defScope s_is_worth) := ⟨rfl, rfl, rfl, by decide +kernel, rfl, by decide +kernel, by decide +kernel⟩

theorem ok_is_worth {f : Addr} {fd : FuncData} (F : Fun K "is_worth" "is_worth" s_is_worth f fd) (bt : Bt mg)
    (g_DIGITS_menus : ∃ t, mg "DIGITS_menus" = some (.str "0123456789" t))
    (g_LETTERS : ∃ t, mg "LETTERS" = some (.str "abcdefghijklmnopqrstuvwxyz" t))
    (g_LONGEST : ∃ t, mg "LONGEST" = some (.int 8 t)) :
    FnOk P w K mg base CX0 1 f fd ["value"] (sp_is_worth K C) := by
  refine F.ok sc_is_worth (fun vs H Q E h => ?_) (fun cdv A outer s H vs Q E hr h => ?_)
  · obtain ⟨W, M, v, z, _, _, rfl, _⟩ := h; rfl
  · obtain ⟨W, M, v, z, rfl, rfl, rfl, ok, r, hz, k⟩ := h
    have S0 : Sl W M (start ["value", "sign"] [v]) H 0 z := ⟨v, rfl, r⟩
    refine ⟨_, (pss_cons (ps_if (PW.pt (pw_or (pt_not (pt_val (pe_callB call_isi (by rfl) bt.isinstance_ (by decide +kernel) (pa_cons (pv 0) (pa_cons (pe_bltn (v := .ty "str") (by rfl) bt.str_ (by decide +kernel) rfl) pa_nil))))) (pw_or1 (pt_not (pt_chain op_le op_le pe_int (pe_callB cLenX (by rfl) bt.len_ (by decide +kernel) (pa_cons (pv 0) pa_nil)) (pe_gI rfl g_LONGEST)))))) (pss_one (ps_ret pe_bl)) pss_nil)
      (pss_one (ps_ret (pe_callB (cr_all rfl) (by rfl) bt.all_ (by decide +kernel) (pa_cons (pe_lc (own := [("sign", 1)]) (g := gName 1) rfl sc_is_worth.nd (pi_str (pv 0)) (blkOk_by (own := [("sign", 1)]) (N := ["value", "sign"]) (sc := defScope s_is_worth) (by decide +kernel)) (fun _ _ _ _ _ => (pg_name (i := 1) sc_is_worth.nd rfl (Or.inl rfl))) (fun _ _ _ _ _ => pts_nil) (fun _ _ _ _ _ => (pe_or (pe_cmpR op_inS (pv 1) (pe_gS rfl g_LETTERS) (by rfl)) (pe_one (pe_cmpR op_inS (pv 1) (pe_gS rfl g_DIGITS_menus) (by rfl)))))) pa_nil))))), ?_⟩
    refine s_if ok (et_or (et_not (et_b (ev_isStr (ev_var S0)))) fun _ => et_not (et_t (ev_chain ev_int (ev_lenX (ev_var S0) (by omega)) ev_int))) (fun hb H1 e1 ok1 => ?_) (fun hb H1 e1 ok1 => ?_)
    · refine s_ret ok1 ev_bl fun v H2 e2 r => k v H2 (e1.trans e2) ?_
      have hf : isWorth z = false := by
        unfold isWorth
        simp only [Bool.not_true, Bool.false_or, Bool.not_eq_true'] at hb
        rw [hb]; rfl
      rw [hf]; exact r
    · have hf : isWorth z = ((signs z).map fun s => inS lettersS s || inS digitsS s).all id := by
        unfold isWorth
        simp only [Bool.not_true, Bool.false_or, Bool.not_eq_false'] at hb
        rw [hb]; rfl
      rw [hf] at k
      refine s_ret ok1 (ev_all (ev_lc (ei_str (ev_var (S0.up e1))) (by rw [signs_len]; exact Nat.le_trans hz (by decide)) (by decide) fun i s v M' H' hi l r => ?_)) fun v H' e r => k v H' (e1.trans e) r
      obtain ⟨c, e, _⟩ := signs_one (List.mem_of_getElem? hi)
      exact ev_or (ev_inS (ev_var (Sl.me r)) ev_str ⟨c, e⟩) fun _ => ev_inS (ev_var (Sl.me r)) ev_str ⟨c, e⟩

abbrev s_are_different : Stmt := topS 27
theorem sc_are_different : FnScope ["values", "value"] ["values"] (defScope s_are_different) := ⟨rfl, rfl, rfl, by decide +kernel, rfl, by decide +kernel, by decide +kernel⟩

theorem ok_are_different {f : Addr} {fd : FuncData} (F : Fun K "are_different" "are_different" s_are_different f fd) (bt : Bt mg) :
    FnOk P w K mg base CX0 1 f fd ["values"] (sp_are_different K C) := by
  refine F.ok sc_are_different (fun vs H Q E h => ?_) (fun cdv A outer s H vs Q E hr h => ?_)
  · obtain ⟨W, M, v, z, _, _, rfl, _⟩ := h; rfl
  · obtain ⟨W, M, v, z, rfl, rfl, rfl, ok, r, hz, k⟩ := h
    have S0 : Sl W M (start ["values", "value"] [v]) H 0 z := ⟨v, rfl, r⟩
    refine ⟨_, (pss_one (ps_ret (pe_callB (cr_all rfl) (by rfl) bt.all_ (by decide +kernel) (pa_cons (pe_lc (own := [("value", 1)]) (g := gName 1) rfl sc_are_different.nd (pi_list (pv 0)) (blkOk_by (own := [("value", 1)]) (N := ["values", "value"]) (sc := defScope s_are_different) (by decide +kernel)) (fun _ _ _ _ _ => (pg_name (i := 1) sc_are_different.nd rfl (Or.inl rfl))) (fun _ _ _ _ _ => pts_nil) (fun _ _ _ _ _ => (PE.to (pe_cmpR op_eq (pe_bm PySem.F.plainAttrs_list PySem.F.slot_list_count PySem.F.type_list_count (mt_countE (by exact u65 hr)) (pv 0) (pa_cons (pv 1) pa_nil)) pe_int (nomark _)) (by dsimp only [Cx.blk] <;> rfl)))) pa_nil)))), ?_⟩
    exact s_ret ok (ev_all (ev_lc (ei_list (ev_var S0)) (by omega) (by decide) fun i s v M' H' hi l r => ev_eq (ev_count (ev_var (S0.lc l)) (ev_var (Sl.me r))) ev_int)) fun v H' e r => k v H' e r

abbrev s_is_column : Stmt := topS 28
theorem sc_is_column : FnScope ["value", "worth"] ["value"] (defScope s_is_column) := ⟨rfl, rfl, rfl, by decide +kernel, rfl, by decide +kernel, by decide +kernel⟩

theorem ok_is_column {f : Addr} {fd : FuncData} (F : Fun K "is_column" "is_column" s_is_column f fd) (bt : Bt mg)
    (c_is_name : Cal P w K mg base 1 "is_name" ["value"] (sp_is_name K C))
    (c_are_different : Cal P w K mg base 1 "are_different" ["values"] (sp_are_different K C))
    (c_is_worth : Cal P w K mg base 1 "is_worth" ["value"] (sp_is_worth K C))
    (g_MOST_WORTHS : ∃ t, mg "MOST_WORTHS" = some (.int 12 t)) :
    FnOk P w K mg base CX0 2 f fd ["value"] (sp_is_column K C) := by
  refine F.ok sc_is_column (fun vs H Q E h => ?_) (fun cdv A outer s H vs Q E hr h => ?_)
  · obtain ⟨W, M, v, z, _, _, rfl, _⟩ := h; rfl
  · obtain ⟨W, M, v, z, rfl, rfl, rfl, ok, r, hz, k⟩ := h
    have S0 : Sl W M (L2.start ["value", "worth"] [v]) H 0 z := ⟨v, rfl, r⟩
    obtain ⟨hn, hw, hws⟩ := hz.2 (unQ z) (by simp)
    have k : ∀ r H', Ex W [] H H' → Rep W M H' r (isCol (unQ z)) → Q r H' := k
    refine ⟨_, (pss_cons (ps_if (PW.pt (pw_or (pt_not (pt_val (pe_callB call_isi (by rfl) bt.isinstance_ (by decide +kernel) (pa_cons (pv 0) (pa_cons (pe_bltn (v := .ty "tuple") (by rfl) bt.tuple_ (by decide +kernel) rfl) pa_nil))))) (pw_or (pt_cmpR op_ne (pe_callB cLenS (by rfl) bt.len_ (by decide +kernel) (pa_cons (pv 0) pa_nil)) pe_int (nomark _)) (pw_or1 (pt_not (pt_val (pe_call c_is_name.ok (by exact hr.mono (by decide)) (by rfl) c_is_name.gl c_is_name.kp c_is_name.b .nil pass0 (pa_cons (pe_ix ix_tup (pv 0) pe_int (fun _ _ => rfl)) pa_nil)))))))) (pss_one (ps_ret pe_bl)) pss_nil)
      (pss_cons (ps_if (PW.pt (pw_or (pt_not (pt_val (pe_callB call_isiT (by rfl) bt.isinstance_ (by decide +kernel) (pa_cons (pe_ix ix_tup (pv 0) pe_int (fun _ _ => rfl)) (pa_cons (pe_tup (pa_cons (pe_bltn (v := .ty "list") (by rfl) bt.list_ (by decide +kernel) rfl) (pa_cons (pe_bltn (v := .ty "tuple") (by rfl) bt.tuple_ (by decide +kernel) rfl) pa_nil))) pa_nil))))) (pw_or1 (pt_not (pt_chain op_le op_le pe_int (pe_callB cLenS (by rfl) bt.len_ (by decide +kernel) (pa_cons (pe_ix ix_tup (pv 0) pe_int (fun _ _ => rfl)) pa_nil)) (pe_gI rfl g_MOST_WORTHS)))))) (pss_one (ps_ret pe_bl)) pss_nil)
      (pss_one (ps_ret (pe_and (pe_callB (cr_all rfl) (by rfl) bt.all_ (by decide +kernel) (pa_cons (pe_lc (own := [("worth", 1)]) (g := gName 1) rfl sc_is_column.nd (pi_seq (pe_ix ix_tup (pv 0) pe_int (fun _ _ => rfl))) (blkOk_by (own := [("worth", 1)]) (N := ["value", "worth"]) (sc := defScope s_is_column) (by decide +kernel)) (fun _ _ _ _ _ => (pg_name (i := 1) sc_is_column.nd rfl (Or.inl rfl))) (fun _ _ _ _ _ => pts_nil) (fun _ _ _ _ _ => (PE.to (pe_call c_is_worth.ok (by exact hr.mono (by decide)) (by rfl) c_is_worth.gl c_is_worth.kp c_is_worth.b .nil pass0 (pa_cons (pv 1) pa_nil)) (by dsimp only [Cx.blk] <;> rfl)))) pa_nil)) (pe_one (pe_call c_are_different.ok (by exact hr.mono (by decide)) (by rfl) c_are_different.gl c_are_different.kp c_are_different.b .nil pass0 (pa_cons (pe_callTy cListOf (by rfl) bt.list_ (by decide +kernel) (pa_cons (pe_ix ix_tup (pv 0) pe_int (fun _ _ => rfl)) pa_nil)) pa_nil)))))))), ?_⟩
    refine s_if ok (et_or (et_not (et_b (ev_isPair (ev_var S0)))) fun _ => et_or (et_t (ev_ne (ev_lenP (ev_var S0)) ev_int)) fun _ => et_not (et_b (ev_f1 (ev_fst (ev_var S0)) hn))) (fun hb H1 e1 ok1 => ?_) (fun hb H1 e1 ok1 => ?_)
    · have hf : isCol (unQ z) = false := by
        have : isName z.1 = false := by simpa using hb
        unfold isCol
        rw [show (unQ z).1 = z.1 from rfl, this]; rfl
      rw [hf] at k
      exact s_ret ok1 ev_bl fun v H2 e2 r => k v H2 (e1.trans e2) r
    have hN : isName z.1 = true := by simpa using hb
    have S1 := S0.up e1
    refine s_if ok1 (et_or (et_not (et_b (ev_isSq (ev_snd (ev_var S1))))) fun _ => et_not (et_t (ev_chain ev_int (ev_lenQ (ev_snd (ev_var S1))) ev_int))) (fun hb H2 e2 ok2 => ?_) (fun hb H2 e2 ok2 => ?_)
    · have hf : isCol (unQ z) = false := by
        simp only [Bool.not_true, Bool.false_or, Bool.not_eq_true'] at hb
        unfold isCol
        rw [show (unQ z).2 = z.2.l from rfl, hb]; simp
      rw [hf] at k
      exact s_ret ok2 ev_bl fun v H3 e3 r => k v H3 ((e1.trans e2).trans e3) r
    have hf : isCol (unQ z) = ((z.2.l.map isWorth).all id && areDiff z.2.l) := by
      simp only [Bool.not_true, Bool.false_or, Bool.not_eq_false'] at hb
      unfold isCol
      rw [show (unQ z).2 = z.2.l from rfl, show (unQ z).1 = z.1 from rfl, hb, hN]; rfl
    rw [hf] at k
    have S2 := S1.up e2
    refine s_ret ok2 (ev_and (ev_all (ev_lc (ei_seq (ev_snd (ev_var S2))) (Nat.le_trans hw (by decide)) (by decide) fun i s v M' H' hi l r => ev_f1 (ev_var (Sl.me r)) (hws s (List.mem_of_getElem? hi)))) fun _ => ev_f1 (ev_listQ (ev_snd (ev_var S2))) hw) fun v H3 e3 r => k v H3 ((e1.trans e2).trans e3) r

abbrev s_are_columns : Stmt := topS 29
theorem sc_are_columns : FnScope ["value", "column"] ["value"] (defScope s_are_columns) := ⟨rfl, rfl, rfl, by decide +kernel, rfl, by decide +kernel, by decide +kernel⟩

theorem ok_are_columns {f : Addr} {fd : FuncData} (F : Fun K "are_columns" "are_columns" s_are_columns f fd) (bt : Bt mg)
    (c_are_different : Cal P w K mg base 1 "are_different" ["values"] (sp_are_different K C))
    (c_is_column : Cal P w K mg base 2 "is_column" ["value"] (sp_is_column K C))
    (c_kinds_of : Cal P w K mg base 1 "kinds_of" ["columns"] (sp_kinds_of K C))
    (g_MOST_COLUMNS : ∃ t, mg "MOST_COLUMNS" = some (.int 3 t))
    (g_MOST_KINDS : ∃ t, mg "MOST_KINDS" = some (.int 12 t)) :
    FnOk P w K mg base CX0 3 f fd ["value"] (sp_are_columns K C) := by
  refine F.ok sc_are_columns (fun vs H Q E h => ?_) (fun cdv A outer s H vs Q E hr h => ?_)
  · obtain ⟨W, M, v, z, _, _, rfl, _⟩ := h; rfl
  · obtain ⟨W, M, v, z, rfl, rfl, rfl, ok, r, hz, k⟩ := h
    have S0 : Sl W M (L2.start ["value", "column"] [v]) H 0 z := ⟨v, rfl, r⟩
    have hlen : z.l.length ≤ 1000 := by simpa using hz.1
    have hcol : ∀ c ∈ z.l, Fair [unQ c] := fun c hc => ⟨by simp, fun d hd => by
      have e : d = unQ c := by simpa using hd
      rw [e]; exact hz.2 _ (List.mem_map_of_mem hc)⟩
    have k : ∀ r H', Ex W [] H H' → Rep W M H' r (areCols (z.l.map unQ)) → Q r H' := k
    refine ⟨_, (pss_cons (ps_if (PW.pt (pw_or (pt_not (pt_val (pe_callB call_isiT (by rfl) bt.isinstance_ (by decide +kernel) (pa_cons (pv 0) (pa_cons (pe_tup (pa_cons (pe_bltn (v := .ty "list") (by rfl) bt.list_ (by decide +kernel) rfl) (pa_cons (pe_bltn (v := .ty "tuple") (by rfl) bt.tuple_ (by decide +kernel) rfl) pa_nil))) pa_nil))))) (pw_or1 (pt_not (pt_chain op_le op_le pe_int (pe_callB cLenS (by rfl) bt.len_ (by decide +kernel) (pa_cons (pv 0) pa_nil)) (pe_gI rfl g_MOST_COLUMNS)))))) (pss_one (ps_ret pe_bl)) pss_nil)
      (pss_cons (ps_if (PW.pt (pw_or (pt_not (pt_val (pe_callB (cr_all rfl) (by rfl) bt.all_ (by decide +kernel) (pa_cons (pe_lc (own := [("column", 1)]) (g := gName 1) rfl sc_are_columns.nd (pi_seq (pv 0)) (blkOk_by (own := [("column", 1)]) (N := ["value", "column"]) (sc := defScope s_are_columns) (by decide +kernel)) (fun _ _ _ _ _ => (pg_name (i := 1) sc_are_columns.nd rfl (Or.inl rfl))) (fun _ _ _ _ _ => pts_nil) (fun _ _ _ _ _ => (PE.to (pe_call c_is_column.ok (by exact hr.mono (by decide)) (by rfl) c_is_column.gl c_is_column.kp c_is_column.b .nil pass0 (pa_cons (pv 1) pa_nil)) (by dsimp only [Cx.blk] <;> rfl)))) pa_nil)))) (pw_or1 (pt_not (pt_val (pe_call c_are_different.ok (by exact hr.mono (by decide)) (by rfl) c_are_different.gl c_are_different.kp c_are_different.b .nil pass0 (pa_cons (pe_lc (own := [("column", 1)]) (g := gName 1) rfl sc_are_columns.nd (pi_seq (pv 0)) (blkOk_by (own := [("column", 1)]) (N := ["value", "column"]) (sc := defScope s_are_columns) (by decide +kernel)) (fun _ _ _ _ _ => (pg_name (i := 1) sc_are_columns.nd rfl (Or.inl rfl))) (fun _ _ _ _ _ => pts_nil) (fun _ _ _ _ _ => (PE.to (pe_ix ix_tup (pv 1) pe_int (fun _ _ => rfl)) (by dsimp only [Cx.blk] <;> rfl)))) pa_nil))))))) (pss_one (ps_ret pe_bl)) pss_nil)
      (pss_one (ps_ret (pe_cmpR op_le (pe_callB cLenS (by rfl) bt.len_ (by decide +kernel) (pa_cons (pe_call c_kinds_of.ok (by exact hr.mono (by decide)) (by rfl) c_kinds_of.gl c_kinds_of.kp c_kinds_of.b .nil pass0 (pa_cons (pv 0) pa_nil)) pa_nil)) (pe_gI rfl g_MOST_KINDS) (nomark _)))))), ?_⟩
    refine s_if ok (et_or (et_not (et_b (ev_isSq (ev_var S0)))) fun _ => et_not (et_t (ev_chain ev_int (ev_lenQ (ev_var S0)) ev_int))) (fun hb H1 e1 ok1 => ?_) (fun hb H1 e1 ok1 => ?_)
    · have hf : areCols (z.l.map unQ) = false := by
        simp only [Bool.not_true, Bool.false_or, Bool.not_eq_true'] at hb
        unfold areCols
        rw [List.length_map, hb]; rfl
      rw [hf] at k
      exact s_ret ok1 ev_bl fun v H2 e2 r => k v H2 (e1.trans e2) r
    have hL : (decide ((1 : Int) ≤ z.l.length) && decide ((z.l.length : Int) ≤ 3)) = true := by simpa only [Bool.not_true, Bool.false_or, Bool.not_eq_false'] using hb
    have S1 := S0.up e1
    refine s_if ok1 (et_or (et_not (et_b (ev_all (ev_lc (f := fun c => isCol (unQ c)) (ei_seq (ev_var S1)) (by omega) (by decide) fun i s v M' H' hi l r => ev_f1 (x := s) (ev_var (Sl.me r)) (hcol s (List.mem_of_getElem? hi)))))) fun _ =>
      et_not (et_b (ev_f1 (ev_lc (f := Prod.fst) (ei_seq (ev_var S1)) (by omega) (by decide) fun i s v M' H' hi l r => ev_fst (ev_var (Sl.me r))) (by rw [List.length_map]; exact hlen)))) (fun hb H2 e2 ok2 => ?_) (fun hb H2 e2 ok2 => ?_)
    · have hf : areCols (z.l.map unQ) = false := by
        have h2 : ((z.l.map fun c => isCol (unQ c)).all id && areDiff (z.l.map Prod.fst)) = false := by
          rw [← Bool.not_eq_true', Bool.not_and]; exact hb
        unfold areCols
        rw [List.map_map, List.map_map]
        rw [show (isCol ∘ unQ) = fun c => isCol (unQ c) from rfl, show ((fun x : Col => x.1) ∘ unQ) = Prod.fst from rfl, h2]; simp
      rw [hf] at k
      exact s_ret ok2 ev_bl fun v H3 e3 r => k v H3 ((e1.trans e2).trans e3) r
    have h2 : ((z.l.map fun c => isCol (unQ c)).all id && areDiff (z.l.map Prod.fst)) = true := by
      rw [← Bool.not_eq_false', Bool.not_and]; exact hb
    have hf : areCols (z.l.map unQ) = decide (((kinds (z.l.map unQ)).length : Int) ≤ 12) := by
      unfold areCols
      rw [List.map_map, List.map_map]
      rw [show (isCol ∘ unQ) = fun c => isCol (unQ c) from rfl, show ((fun x : Col => x.1) ∘ unQ) = Prod.fst from rfl, h2, List.length_map, hL]; rfl
    rw [hf] at k
    have few : Few (z.l.map unQ) := by
      refine ⟨by rw [List.length_map]; simp at hL; omega, fun c hc => ?_⟩
      obtain ⟨d, hd, rfl⟩ := List.mem_map.mp hc
      simp only [Bool.and_eq_true, List.all_map] at h2
      have := List.all_eq_true.mp h2.1 d hd
      exact isCol_few this
    exact s_ret ok2 ((ev_B0 (ev_lenL (ev_f1 (x := z) (ev_var (S1.up e2)) few)) ev_int).is (by rw [List.length_map])) fun v H3 e3 r => k v H3 ((e1.trans e2).trans e3) r

abbrev s_kinds_of : Stmt := topS 30
theorem sc_kinds_of : FnScope ["columns", "found", "name", "worths", "kind", "worth"] ["columns"] (defScope s_kinds_of) := ⟨rfl, rfl, rfl, by decide +kernel, rfl, by decide +kernel, by decide +kernel⟩

theorem ok_kinds_of {f : Addr} {fd : FuncData} (F : Fun K "kinds_of" "kinds_of" s_kinds_of f fd) (bt : Bt mg) :
    FnOk P w K mg base CX0 1 f fd ["columns"] (sp_kinds_of K C) := by
  refine F.ok sc_kinds_of (fun vs H Q E h => ?_) (fun cdv A outer s H vs Q E hr h => ?_)
  · obtain ⟨W, M, v, z, _, _, rfl, _⟩ := h; rfl
  · obtain ⟨W, M, v, z, rfl, rfl, rfl, ok, r, hz, k⟩ := h
    have S0 : Sl W M (L2.start ["columns", "found", "name", "worths", "kind", "worth"] [v]) H 0 z := ⟨v, rfl, r⟩
    have hl : z.l.length ≤ 3 := by simpa using hz.1
    have k : ∀ r H', Ex W [] H H' → Rep W M H' r ((kinds (z.l.map unQ)).map TupK.mk) → Q r H' := k
    refine ⟨_, (pss_cons (ps_set (i := 1) sc_kinds_of.nd rfl (.inl rfl) (pe_lst (pa_cons (pe_tup pa_nil) pa_nil)))
      (pss_cons (ps_for PassesOwn.never rfl (pi_seq (pv 0)) (pg_tup rfl (pgs_cons (pg_name (i := 2) sc_kinds_of.nd rfl (Or.inl rfl)) (pgs_cons (pg_name (i := 3) sc_kinds_of.nd rfl (Or.inr rfl)) pgs_nil)))
      (pss_one (ps_setLc2 (i := 1) (own := [("kind", 4), ("worth", 5)]) (vs1 := [5]) (g := gName 4) (g1 := gName 5) rfl sc_kinds_of.nd rfl rfl (sw_true rfl rfl rfl (by decide +kernel)) (pi_list (pv 1)) (blkOk_by (own := [("kind", 4), ("worth", 5)]) (N := ["columns", "found", "name", "worths", "kind", "worth"]) (sc := defScope s_kinds_of) (by decide +kernel)) (by decide) (fun _ _ _ _ _ => (pg_name (i := 4) sc_kinds_of.nd rfl (Or.inl rfl))) (fun _ _ _ _ _ => pts_nil) (fun _ _ _ _ _ => (PI.to (pi_seq (pv 3)) (by dsimp only [Cx.blk] <;> rfl))) (fun _ _ _ _ _ => (pg_name (i := 5) sc_kinds_of.nd rfl (Or.inl rfl))) (fun _ _ _ _ _ => pts_nil) (fun _ _ _ _ _ => (PE.to (pe_tup (pa_star (pv 4) (pa_cons (pv 5) pa_nil))) (by dsimp only [Cx.blk] <;> rfl))))))
      (pss_one (ps_ret (pv 1))))), ?_⟩
    refine s_set ok (ev_lst (ea_cons (ev_tupK ea_nil (Nat.zero_le _)) ea_nil) (by decide)) fun v1 H1 e1 ok1 r1 => ?_
    refine for_w ok1 (ei_seq (ev_var (S0.set e1))) (fun i σ' H' => Ex W [] H H' ∧ σ'.length = 6 ∧ Sl W M σ' H' 1 ((kinds ((z.l.map unQ).take i)).map TupK.mk)) (fun H' e => ⟨e1.trans e, by rw [List.length_set]; rfl, (Sl.hr r1).up e⟩) ?_ ?_
    · rintro i c v σ' H' hi ⟨e0, hσ, S1⟩ ok' H'' e'' r N hN
      have ok'' := ok'.ex e''
      refine gPair_rd r fun v1 v2 r1 r2 => ?_
      have S3 : Sl W M ((σ'.set 2 (some v1)).set 3 (some v2)) H'' 3 c.2 := Sl.here r2 (by rw [List.length_set, hσ]; decide)
      have S1' : Sl W M ((σ'.set 2 (some v1)).set 3 (some v2)) H'' 1 _ := ((S1.up e'').set Ex.refl).set Ex.refl
      have hin : i < 3 := Nat.lt_of_lt_of_le (List.getElem?_eq_some_iff.mp hi).1 hl
      have hc : c.2.l.length ≤ 12 := hz.2 (unQ c) (List.mem_map_of_mem (List.mem_of_getElem? hi))
      have few : Few ((z.l.map unQ).take i) := hz.take i
      have hlen : (kinds ((z.l.map unQ).take i)).length ≤ 144 := few.num (by rw [List.length_take]; omega)
      refine s_set ok'' (ev_lcc (f := fun (k : TupK) (s : Str) => TupK.mk (k.l ++ [s])) (zs := fun _ => c.2.l) (ei_list (ev_var S1')) (by rw [List.length_map]; omega) (by decide) (by decide) (fun _ _ => by omega)
        (fun i x v M' H' hi l r => ei_seq (ev_var (S3.lc l)))
        (fun i j x s v u M' H' hi hj l r ru => ev_tupK (ea_starK (ev_var ((Sl.me r (by rw [List.length_set, List.length_set, hσ]; decide)).wipe.set Ex.refl)) (ea_cons (ev_var (Sl.here ru (by rw [wipe_len, List.length_set, wipe_len, List.length_set, List.length_set, hσ]; decide))) ea_nil)) ?_)) fun v3 H3 e3 ok3 r3 => hN _ _ ⟨e0.trans (e''.trans e3), by rw [List.length_set, List.length_set, List.length_set, hσ], ?_⟩ e3.up
      · obtain ⟨y, hy, rfl⟩ := List.mem_map.mp (List.mem_of_getElem? hi)
        have := kind_len hy
        rw [List.length_append, this, List.length_take]
        show min _ _ + 1 ≤ _
        omega
      · refine Sl.here (k := 1) ?_ (by rw [List.length_set, List.length_set, hσ]; decide)
        have e : (kinds ((z.l.map unQ).take (i + 1))).map TupK.mk = ((kinds ((z.l.map unQ).take i)).map TupK.mk).flatMap fun k => c.2.l.map fun s => (TupK.mk (k.l ++ [s]) : TupK) := by
          rw [kinds_take (c := unQ c) (by rw [List.getElem?_map, hi]; rfl), kstep_mk]; rfl
        rw [e]; exact r3
    · rintro σ' H' ⟨e0, hσ, S1⟩ ok'
      rw [show z.l.length = (z.l.map unQ).length by rw [List.length_map], List.take_length] at S1
      exact s_ret ok' (ev_var S1) fun v H3 e3 r => k v H3 (e0.trans e3) r

abbrev s_Menu_columns : Stmt := inClass (topS 31) 2
theorem sc_Menu_columns : FnScope ["self"] ["self"] (defScope s_Menu_columns) := ⟨rfl, rfl, rfl, by decide +kernel, rfl, by decide +kernel, by decide +kernel⟩

theorem ok_Menu_columns {f : Addr} {fd : FuncData} (F : Fun K "columns" "Menu.columns" s_Menu_columns f fd) (bt : Bt mg)
    (cl_Menu : Cls K (C "Menu"))
    (n_Menu_own_columns : NoAttr K (C "Menu") "own_columns") :
    FnOk P w K mg base CX0 1 f fd ["self"] (sp_Menu_columns K C) := by
  refine F.ok sc_Menu_columns (fun vs H Q E h => ?_) (fun cdv A outer s H vs Q E hr h => ?_)
  · obtain ⟨W, M, v, z, _, _, rfl, _⟩ := h; rfl
  · obtain ⟨W, M, v, z, rfl, rfl, rfl, ok, r, hz, k⟩ := h
    have S0 : Sl W M (L2.start ["self"] [v]) H 0 z := ⟨v, rfl, r⟩
    refine ⟨_, (pss_one (ps_ret (pe_fld (pv 0) rfl))), ?_⟩
    exact s_ret ok (mn_cols (ev_var S0) cl_Menu n_Menu_own_columns) fun v H3 e3 r => k v H3 e3 r

abbrev s_Menu_kinds : Stmt := inClass (topS 31) 3
theorem sc_Menu_kinds : FnScope ["self"] ["self"] (defScope s_Menu_kinds) := ⟨rfl, rfl, rfl, by decide +kernel, rfl, by decide +kernel, by decide +kernel⟩

theorem ok_Menu_kinds {f : Addr} {fd : FuncData} (F : Fun K "kinds" "Menu.kinds" s_Menu_kinds f fd) (bt : Bt mg)
    (cl_Menu : Cls K (C "Menu"))
    (n_Menu_own_kinds : NoAttr K (C "Menu") "own_kinds") :
    FnOk P w K mg base CX0 1 f fd ["self"] (sp_Menu_kinds K C) := by
  refine F.ok sc_Menu_kinds (fun vs H Q E h => ?_) (fun cdv A outer s H vs Q E hr h => ?_)
  · obtain ⟨W, M, v, z, _, _, rfl, _⟩ := h; rfl
  · obtain ⟨W, M, v, z, rfl, rfl, rfl, ok, r, hz, k⟩ := h
    have S0 : Sl W M (L2.start ["self"] [v]) H 0 z := ⟨v, rfl, r⟩
    refine ⟨_, (pss_one (ps_ret (pe_fld (pv 0) rfl))), ?_⟩
    exact s_ret ok (mn_kinds (ev_var S0) cl_Menu n_Menu_own_kinds) fun v H3 e3 r => k v H3 e3 r

abbrev s_Menu_len : Stmt := inClass (topS 31) 4
theorem sc_Menu_len : FnScope ["self"] ["self"] (defScope s_Menu_len) := ⟨rfl, rfl, rfl, by decide +kernel, rfl, by decide +kernel, by decide +kernel⟩

theorem ok_Menu_len {f : Addr} {fd : FuncData} (F : Fun K "__len__" "Menu.__len__" s_Menu_len f fd) (bt : Bt mg)
    (cl_Menu : Cls K (C "Menu"))
    (n_Menu_own_kinds : NoAttr K (C "Menu") "own_kinds") :
    FnOk P w K mg base CX0 1 f fd ["self"] (sp_Menu_len K C) := by
  refine F.ok sc_Menu_len (fun vs H Q E h => ?_) (fun cdv A outer s H vs Q E hr h => ?_)
  · obtain ⟨W, M, v, z, _, _, rfl, _⟩ := h; rfl
  · obtain ⟨W, M, v, z, rfl, rfl, rfl, ok, r, hz, k⟩ := h
    have S0 : Sl W M (L2.start ["self"] [v]) H 0 z := ⟨v, rfl, r⟩
    have k : ∀ r H', Ex W [] H H' → Rep W M H' r ((kinds z.cols).length : Int) → Q r H' := k
    refine ⟨_, (pss_one (ps_ret (pe_callB cLenS (by rfl) bt.len_ (by decide +kernel) (pa_cons (pe_fld (pv 0) rfl) pa_nil)))), ?_⟩
    exact s_ret ok ((ev_lenT (mn_kinds (ev_var S0) cl_Menu n_Menu_own_kinds)).is (by unfold kindsT; rw [List.length_map])) fun v H3 e3 r => k v H3 e3 r

abbrev s_Menu_contains : Stmt := inClass (topS 31) 5
theorem sc_Menu_contains : FnScope ["self", "kind", "other"] ["self", "kind"] (defScope s_Menu_contains) := ⟨rfl, rfl, rfl, by decide +kernel, rfl, by decide +kernel, by decide +kernel⟩

theorem ok_Menu_contains {f : Addr} {fd : FuncData} (F : Fun K "__contains__" "Menu.__contains__" s_Menu_contains f fd) (bt : Bt mg)
    (cl_Menu : Cls K (C "Menu"))
    (n_Menu_own_kinds : NoAttr K (C "Menu") "own_kinds") :
    FnOk P w K mg base CX0 1 f fd ["self", "kind"] (sp_Menu_contains K C) := by
  refine F.ok sc_Menu_contains (fun vs H Q E h => ?_) (fun cdv A outer s H vs Q E hr h => ?_)
  · obtain ⟨W, M, v, u, z, d, _, _, rfl, _⟩ := h; rfl
  · obtain ⟨W, M, v, u, z, d, rfl, rfl, rfl, ok, r, rd, hz, k⟩ := h
    have S0 : Sl W M (L2.start ["self", "kind", "other"] [v, u]) H 0 z := ⟨v, rfl, r⟩
    have S1 : Sl W M (L2.start ["self", "kind", "other"] [v, u]) H 1 d := ⟨u, rfl, rd⟩
    refine ⟨_, (pss_one (ps_ret (pe_and (pe_callB call_isi (by rfl) bt.isinstance_ (by decide +kernel) (pa_cons (pv 1) (pa_cons (pe_bltn (v := .ty "tuple") (by rfl) bt.tuple_ (by decide +kernel) rfl) pa_nil))) (pe_one (pe_callB (cr_any rfl) (by rfl) bt.any_ (by decide +kernel) (pa_cons (pe_lc (own := [("other", 2)]) (g := gName 2) rfl sc_Menu_contains.nd (pi_tup (pe_fld (pv 0) rfl)) (blkOk_by (own := [("other", 2)]) (N := ["self", "kind", "other"]) (sc := defScope s_Menu_contains) (by decide +kernel)) (fun _ _ _ _ _ => (pg_name (i := 2) sc_Menu_contains.nd rfl (Or.inl rfl))) (fun _ _ _ _ _ => pts_nil) (fun _ _ _ _ _ => (PE.to (pe_cmpR (op_eqE (by exact hr.units)) (pv 1) (pv 2) (nomark _)) (by dsimp only [Cx.blk] <;> rfl)))) pa_nil)))))), ?_⟩
    refine s_ret ok (ev_and (ev_isTupD (ev_var S1)) fun _ => ev_any (ev_lc (ei_tup (mn_kinds (ev_var S0) cl_Menu n_Menu_own_kinds)) ?_ (by decide) fun i s v M' H' hi l r => ev_eqP (ev_var (S1.lc l)) (ev_var (Sl.me r)) hz.2)) fun v H3 e3 r => k v H3 e3 r
    unfold kindsT
    rw [List.length_map]
    exact Nat.le_trans hz.1 (by decide)

abbrev s_Menu_place : Stmt := inClass (topS 31) 6
theorem sc_Menu_place : FnScope ["self", "kind"] ["self", "kind"] (defScope s_Menu_place) := ⟨rfl, rfl, rfl, by decide +kernel, rfl, by decide +kernel, by decide +kernel⟩

theorem ok_Menu_place {f : Addr} {fd : FuncData} (F : Fun K "place" "Menu.place" s_Menu_place f fd) (bt : Bt mg)
    (i_Menu : OwnC P w K mg base 1 (C "Menu") "__contains__" ["self", "kind"] (sp_Menu_contains K C))
    (cl_Menu : Cls K (C "Menu"))
    (n_Menu_own_kinds : NoAttr K (C "Menu") "own_kinds") :
    FnOk P w K mg base CX0 2 f fd ["self", "kind"] (sp_Menu_place K C) := by
  refine F.ok sc_Menu_place (fun vs H Q E h => ?_) (fun cdv A outer s H vs Q E hr h => ?_)
  · obtain ⟨W, M, v, u, z, d, _, _, rfl, _⟩ := h; rfl
  · obtain ⟨W, M, v, u, z, d, rfl, rfl, rfl, ok, r, rd, hz, k⟩ := h
    have S0 : Sl W M (L2.start ["self", "kind"] [v, u]) H 0 z := ⟨v, rfl, r⟩
    have S1 : Sl W M (L2.start ["self", "kind"] [v, u]) H 1 d := ⟨u, rfl, rd⟩
    refine ⟨_, (pss_cons (ps_if (pt_cmpR (op_notInOwn i_Menu (by exact hr.mono (by decide))) (pv 1) (pv 0) (by rfl)) (pss_one ps_never) pss_nil)
      (pss_one (ps_ret (pe_bmF PySem.F.plainAttrs_tuple PySem.F.slot_tuple_index PySem.F.type_tuple_index (mt_idxT (by exact u65 hr)) (pe_fld (pv 0) rfl) (pa_cons (pv 1) pa_nil))))), ?_⟩
    refine s_no ok (et_t ((ev_own (neg := true) (o := z) (x := d) (ev_var S1) (ev_var S0) ⟨hz.1, hz.2.1⟩).is (by rw [if_pos rfl, hz.2.2.1]; rfl))) fun H1 e1 ok1 => ?_
    exact s_ret ok1 (mn_place (ev_var (S0.up e1)) (ev_var (S1.up e1)) cl_Menu n_Menu_own_kinds hz.2.2.2) fun v H3 e3 r => k v H3 (e1.trans e3) r

abbrev s_Menu_same : Stmt := inClass (topS 31) 7
theorem sc_Menu_same : FnScope ["self", "other"] ["self", "other"] (defScope s_Menu_same) := ⟨rfl, rfl, rfl, by decide +kernel, rfl, by decide +kernel, by decide +kernel⟩

theorem ok_Menu_same {f : Addr} {fd : FuncData} (F : Fun K "same" "Menu.same" s_Menu_same f fd) (bt : Bt mg)
    (cl_Menu : Cls K (C "Menu"))
    (n_Menu_own_columns : NoAttr K (C "Menu") "own_columns") :
    FnOk P w K mg base CX0 1 f fd ["self", "other"] (sp_Menu_same K C) := by
  refine F.ok sc_Menu_same (fun vs H Q E h => ?_) (fun cdv A outer s H vs Q E hr h => ?_)
  · obtain ⟨W, M, v, u, z, d, _, _, rfl, _⟩ := h; rfl
  · obtain ⟨W, M, v, u, z, d, rfl, rfl, rfl, ok, r, rd, hz, k⟩ := h
    have S0 : Sl W M (L2.start ["self", "other"] [v, u]) H 0 z := ⟨v, rfl, r⟩
    have S1 : Sl W M (L2.start ["self", "other"] [v, u]) H 1 d := ⟨u, rfl, rd⟩
    refine ⟨_, (pss_one (ps_ret (pe_cmpR (op_eqE (by exact hr.units)) (pe_fld (pv 0) rfl) (pe_fld (pv 1) rfl) (nomark _)))), ?_⟩
    exact s_ret ok (ev_eqD (mn_cols (ev_var S0) cl_Menu n_Menu_own_columns) (mn_cols (ev_var S1) cl_Menu n_Menu_own_columns)) fun v H3 e3 r => k v H3 e3 r

abbrev s_Menu_text : Stmt := inClass (topS 31) 8
theorem sc_Menu_text : FnScope ["self", "name", "worths"] ["self"] (defScope s_Menu_text) := ⟨rfl, rfl, rfl, by decide +kernel, rfl, by decide +kernel, by decide +kernel⟩

theorem ok_Menu_text {f : Addr} {fd : FuncData} (F : Fun K "text" "Menu.text" s_Menu_text f fd) (bt : Bt mg)
    (cl_Menu : Cls K (C "Menu"))
    (n_Menu_own_columns : NoAttr K (C "Menu") "own_columns") :
    FnOk P w K mg base CX0 1 f fd ["self"] (sp_Menu_text K C) := by
  refine F.ok sc_Menu_text (fun vs H Q E h => ?_) (fun cdv A outer s H vs Q E hr h => ?_)
  · obtain ⟨W, M, v, z, _, _, rfl, _⟩ := h; rfl
  · obtain ⟨W, M, v, z, rfl, rfl, rfl, ok, r, hz, k⟩ := h
    have S0 : Sl W M (L2.start ["self", "name", "worths"] [v]) H 0 z := ⟨v, rfl, r⟩
    obtain ⟨hf, h3, h12⟩ := hz
    have hin : ∀ c ∈ z.cols, ∀ x ∈ c.1 :: c.2, x.length ≤ 1000 := fun c hc x hx => by
      obtain ⟨q1, _, q3⟩ := hf.2 c hc
      rcases List.mem_cons.mp hx with rfl | hx
      · exact q1
      · exact q3 x hx
    have hn : ∀ c ∈ z.cols, (c.1 :: c.2).length * (1000 + 1) ≤ 13013 := fun c hc => by have := h12 c hc; rw [List.length_cons]; omega
    have hcl : (colsT z).l.length ≤ 3 := by unfold colsT; rw [List.length_map]; exact h3
    refine ⟨_, (pss_one (ps_ret (peJoin pe_str (pe_lc (own := [("name", 1), ("worths", 2)]) (g := gPair W.K 1 2) rfl sc_Menu_text.nd (pi_tup (pe_fld (pv 0) rfl)) (blkOk_by (own := [("name", 1), ("worths", 2)]) (N := ["self", "name", "worths"]) (sc := defScope s_Menu_text) (by decide +kernel)) (fun _ _ _ _ _ => (pg_tup rfl (pgs_cons (pg_name (i := 1) sc_Menu_text.nd rfl (Or.inl rfl)) (pgs_cons (pg_name (i := 2) sc_Menu_text.nd rfl (Or.inl rfl)) pgs_nil)))) (fun _ _ _ _ _ => pts_nil) (fun _ _ _ _ _ => (PE.to (peJoin pe_str (pe_lst (pa_cons (pv 1) (pa_star (pv 2) pa_nil)))) (by dsimp only [Cx.blk] <;> rfl))))))), ?_⟩
    refine s_ret ok ((ev_join (ev_str (s := "; ")) (ev_lc2 (f := fun c : ColT => Txt.join " " (c.1 :: c.2.l)) (ei_tup (mn_cols (ev_var S0) cl_Menu n_Menu_own_columns)) (by omega) (by decide) (by decide) fun i c v1 v2 M' H' hi l r1 r2 => (ev_join (ev_str (s := " "))
      (ev_lst (ea_cons (ev_var ((Sl.me r1).set Ex.refl)) (ea_starT (ev_var (Sl.hr r2)) ea_nil)) ?_) ?_).is (by rw [List.append_nil])) ?_).is ?_) fun v H3 e3 r => k v H3 e3 r
    · obtain ⟨d, hd, rfl⟩ := List.mem_map.mp (List.mem_of_getElem? hi)
      have := hn d hd
      rw [List.append_nil]
      show (d.1 :: d.2).length ≤ _
      omega
    · obtain ⟨d, hd, rfl⟩ := List.mem_map.mp (List.mem_of_getElem? hi)
      rw [List.append_nil]
      have h1 := join_le (z := " ") (xs := d.1 :: d.2) (hin d hd)
      have h2 := hn d hd
      exact Nat.le_trans h1 (Nat.le_trans h2 (by decide))
    · refine Nat.le_trans (join_le (n := 13013) fun x hx => ?_) ?_
      · obtain ⟨c, hc, rfl⟩ := List.mem_map.mp hx
        obtain ⟨d, hd, rfl⟩ := List.mem_map.mp hc
        exact Nat.le_trans (join_len (z := " ") (xs := d.1 :: d.2) (hin d hd)) (hn d hd)
      · rw [List.length_map]
        refine Nat.le_trans (Nat.mul_le_mul_right _ hcl) (by decide)
    · show Txt.join "; " _ = menuText z.cols
      unfold menuText colsT
      rw [List.map_map]; rfl

abbrev s_Menu_read : Stmt := inClass (topS 31) 1
theorem sc_Menu_read : FnScope ["cls", "text", "parts", "words", "columns", "part", "row"] ["cls", "text"] (defScope s_Menu_read) := ⟨rfl, rfl, rfl, by decide +kernel, rfl, by decide +kernel, by decide +kernel⟩

theorem ok_Menu_read {f : Addr} {fd : FuncData} (F : Fun K "read" "Menu.read" s_Menu_read f fd) (bt : Bt mg)
    (c_are_columns : Cal P w K mg base 3 "are_columns" ["value"] (sp_are_columns K C))
    (m_Menu : MakC P w K mg base 4 (C "Menu") "Menu" ["self", "columns"] (sp_Menu_init K C)) :
    FnOk P w K mg base CX0 6 f fd ["cls", "text"] (sp_Menu_read K C) := by
  refine F.ok sc_Menu_read (fun vs H Q E h => ?_) (fun cdv A outer s H vs Q E hr h => ?_)
  · obtain ⟨W, M, z, _, _, rfl, _⟩ := h; rfl
  · obtain ⟨W, M, z, rfl, rfl, rfl, ok, hz, hp, hf, ha, k⟩ := h
    have C0 : (L2.start ["cls", "text", "parts", "words", "columns", "part", "row"] [V.ref (W.C "Menu"), V.str z])[0]? = some (some (V.ref (W.C "Menu"))) := rfl
    have S1 : Sl W M (L2.start ["cls", "text", "parts", "words", "columns", "part", "row"] [V.ref (W.C "Menu"), V.str z]) H 1 z := ⟨_, rfl, rep_str⟩
    have hn : (Txt.split z "; ").length ≤ 1000 := by have := hf.1; unfold textCols at this; rwa [List.length_map] at this
    have hq : (textCols z).map toQ = (((Txt.split z "; ").map fun p => Txt.split p " ").map fun row => ((row.headD Str.empty, row.drop 1) : Col)).map toQ := by unfold textCols; simp only [List.map_map]; rfl
    refine ⟨_, (pss_cons (ps_set (i := 2) sc_Menu_read.nd rfl (.inl rfl) (pe_ifExp (pt_val (pe_callB call_isi (by rfl) bt.isinstance_ (by decide +kernel) (pa_cons (pv 1) (pa_cons (pe_bltn (v := .ty "str") (by rfl) bt.str_ (by decide +kernel) rfl) pa_nil)))) (peSplit (pv 1) pe_str) (pe_lst pa_nil)))
      (pss_cons (ps_setLc (i := 3) (own := [("part", 5)]) (g := gName 5) rfl sc_Menu_read.nd rfl rfl (sw_true rfl rfl rfl (by decide +kernel)) (pi_list (pv 2)) (blkOk_by (own := [("part", 5)]) (N := ["cls", "text", "parts", "words", "columns", "part", "row"]) (sc := defScope s_Menu_read) (by decide +kernel)) (fun _ _ _ _ _ => (pg_name (i := 5) sc_Menu_read.nd rfl (Or.inl rfl))) (fun _ _ _ _ _ => pts_nil) (fun _ _ _ _ _ => (peSplit (pv 5) pe_str)))
      (pss_cons (ps_setLc (i := 4) (own := [("row", 6)]) (g := gName 6) rfl sc_Menu_read.nd rfl rfl (sw_true rfl rfl rfl (by decide +kernel)) (pi_list (pv 3)) (blkOk_by (own := [("row", 6)]) (N := ["cls", "text", "parts", "words", "columns", "part", "row"]) (sc := defScope s_Menu_read) (by decide +kernel)) (fun _ _ _ _ _ => (pg_name (i := 6) sc_Menu_read.nd rfl (Or.inl rfl))) (fun _ _ _ _ _ => pts_nil) (fun _ _ _ _ _ => (PE.to (pe_tup (pa_cons (pe_ix ix_list (pv 6) pe_int (fun _ _ => rfl)) (pa_cons (pe_slice sl_list (pv 6) (po_some pe_int) po_none) pa_nil))) (by dsimp only [Cx.blk] <;> rfl))))
      (pss_cons (ps_if (pt_not (pt_val (pe_call c_are_columns.ok (by exact hr.mono (by decide)) (by rfl) c_are_columns.gl c_are_columns.kp c_are_columns.b .nil pass0 (pa_cons (pv 4) pa_nil)))) (pss_one ps_never) pss_nil)
      (pss_one (ps_ret (pe_makeL (i := 0) m_Menu.mo m_Menu.ok (by exact hr.mono (by decide)) m_Menu.b (pa_cons (pv 4) pa_nil)))))))), ?_⟩
    refine s_set ok ((ev_ife (y := ([] : List Str)) (et_b (ev_isStr (ev_var S1))) (fun _ => ev_split (ev_var S1) ev_str (by decide +kernel) (by omega)) (fun z => nomatch z)).is (x' := Txt.split z "; ") rfl) fun v1 H1 e1 ok1 r1 => ?_
    have S2 := Sl.hr (k := 2) (σ := L2.start ["cls", "text", "parts", "words", "columns", "part", "row"] [V.ref (W.C "Menu"), V.str z]) r1
    refine s_set ok1 (ev_lc (f := fun p => Txt.split p " ") (ei_list (ev_var S2)) (by omega) (by decide) fun i p v M' H' hi l r => ev_split (ev_var (Sl.me r)) ev_str (by decide +kernel) (by have := (hp p (List.mem_of_getElem? hi)).1; omega)) fun v2 H2 e2 ok2 r2 => ?_
    have S3 := Sl.hr (k := 3) (σ := (L2.start ["cls", "text", "parts", "words", "columns", "part", "row"] [V.ref (W.C "Menu"), V.str z]).set 2 (some v1)) r2
    refine s_set ok2 (ev_lc (f := fun row : List Str => ((row.headD Str.empty, row.drop 1) : Col)) (ei_list (ev_var S3)) (by rw [List.length_map]; omega) (by decide) fun i row v M' H' hi l r => ev_pair (ev_ixL (ev_var (Sl.me r)) ev_int ?_) ((ev_slL (ev_var (Sl.me r)) (eo_some ev_int) eo_none).is cutG_from)) fun v3 H3 e3 ok3 r3 => ?_
    · obtain ⟨p, hp', rfl⟩ := List.mem_map.mp (List.mem_of_getElem? hi)
      have hne := (hp p hp').2
      cases hs : Txt.split p " " with
      | nil => exact absurd hs hne
      | cons a t => exact atI_getD Str.empty (by decide) (by rw [List.length_cons]; omega)
    have S4 : Sl W M (((((L2.start ["cls", "text", "parts", "words", "columns", "part", "row"] [V.ref (W.C "Menu"), V.str z]).set 2 (some v1)).set 3 (some v2)).set 4 (some v3))) H3 4 (Sq.mk ((textCols z).map toQ)) := Sl.hr (by rw [hq]; exact r3.colsQ)
    have hfq : Fair (((Sq.mk ((textCols z).map toQ)).l).map unQ) := by rw [unQ_map]; exact hf
    have haq : areCols (((Sq.mk ((textCols z).map toQ)).l).map unQ) = true := by rw [unQ_map]; exact ha
    refine s_no ok3 (et_not (b := true) (et_b ((ev_f1 (x := Sq.mk ((textCols z).map toQ)) (ev_var S4) hfq).is haq))) fun H4 e4 ok4 => ?_
    refine s_ret ok4 ((ev_makeL rfl (ev_make (x := Sq.mk ((textCols z).map toQ)) (ev_var (S4.up e4)) ⟨hfq, haq⟩)).is (x' := Menu.mk (textCols z)) ?_) fun v5 H5 e5 r5 => k v5 H5 ((((e1.trans e2).trans e3).trans e4).trans e5) r5
    show Menu.mk (((textCols z).map toQ).map unQ) = _
    rw [unQ_map]

abbrev s_Menu_init : Stmt := inClass (topS 31) 0
theorem sc_Menu_init : FnScope ["self", "columns", "name", "worths"] ["self", "columns"] (defScope s_Menu_init) := ⟨rfl, rfl, rfl, by decide +kernel, rfl, by decide +kernel, by decide +kernel⟩

theorem ok_Menu_init {f : Addr} {fd : FuncData} (F : Fun K "__init__" "Menu.__init__" s_Menu_init f fd) (bt : Bt mg)
    (c_are_columns : Cal P w K mg base 3 "are_columns" ["value"] (sp_are_columns K C))
    (c_kinds_of : Cal P w K mg base 1 "kinds_of" ["columns"] (sp_kinds_of K C))
    (cl_Menu : Cls K (C "Menu"))
    (n_Menu_own_columns : NoAttr K (C "Menu") "own_columns")
    (n_Menu_own_kinds : NoAttr K (C "Menu") "own_kinds") :
    FnOk P w K mg base CX0 4 f fd ["self", "columns"] (sp_Menu_init K C) := by
  refine F.ok sc_Menu_init (fun vs H Q E h => ?_) (fun cdv A outer s H vs Q E hr h => ?_)
  · obtain ⟨W, M, a, dx, v, z, _, _, rfl, _⟩ := h; rfl
  · obtain ⟨W, M, a, dx, v, z, rfl, rfl, rfl, ok, nb, nbl, nm, ha, r, hz, k⟩ := h
    have S1 : Sl W (a :: dx :: M) (L2.start ["self", "columns", "name", "worths"] [.ref a, v]) H 1 z := ⟨v, rfl, r⟩
    have A0 : (L2.start ["self", "columns", "name", "worths"] [.ref a, v])[0]? = some (some (.ref a)) := rfl
    have hl : z.l.length ≤ 1000 := by simpa using hz.1.1
    have few : Few (((Sq.mk ((z.l.map unQ).map toQ)).l).map unQ) := by rw [unQ_map]; exact areCols_few hz.2
    have ok_ne : ¬ ("own_columns" : Str) = "own_kinds" := by decide +kernel
    refine ⟨_, (pss_cons (ps_if (pt_not (pt_val (pe_call c_are_columns.ok (by exact hr.mono (by decide)) (by rfl) c_are_columns.gl c_are_columns.kp c_are_columns.b .nil pass0 (pa_cons (pv 1) pa_nil)))) (pss_one ps_never) pss_nil)
      (pss_cons (ps_fld (pv 0) (pe_callTy cTupOf (by rfl) bt.tuple_ (by decide +kernel) (pa_cons (pe_lc (own := [("name", 2), ("worths", 3)]) (g := gPair W.K 2 3) rfl sc_Menu_init.nd (pi_seq (pv 1)) (blkOk_by (own := [("name", 2), ("worths", 3)]) (N := ["self", "columns", "name", "worths"]) (sc := defScope s_Menu_init) (by decide +kernel)) (fun _ _ _ _ _ => (pg_tup rfl (pgs_cons (pg_name (i := 2) sc_Menu_init.nd rfl (Or.inl rfl)) (pgs_cons (pg_name (i := 3) sc_Menu_init.nd rfl (Or.inl rfl)) pgs_nil)))) (fun _ _ _ _ _ => pts_nil) (fun _ _ _ _ _ => (PE.to (pe_tup (pa_cons (pv 2) (pa_cons (pe_callTy cTupOf (by rfl) bt.tuple_ (by decide +kernel) (pa_cons (pv 3) pa_nil)) pa_nil))) (by dsimp only [Cx.blk] <;> rfl)))) pa_nil)) rfl)
      (pss_one (ps_fld (pv 0) (pe_callTy cTupOfF (by rfl) bt.tuple_ (by decide +kernel) (pa_cons (pe_call c_kinds_of.ok (by exact hr.mono (by decide)) (by rfl) c_kinds_of.gl c_kinds_of.kp c_kinds_of.b .nil pass0 (pa_cons (pe_fld (pv 0) rfl) pa_nil)) pa_nil)) rfl)))), ?_⟩
    refine s_no ok (et_not (b := true) (et_b ((ev_f1 (x := z) (ev_var S1) hz.1).is hz.2))) fun H1 e1 ok1 => ?_
    refine s_fld ok1 (x := Tup.mk ((z.l.map unQ).map toT)) ((ev_tuple (ev_lc2 (f := fun c : ColQ => toT (unQ c)) (ei_seq (ev_var (S1.up e1))) (by omega) (by decide) (by decide) fun i c v1 v2 M' H' hi l r1 r2 => ev_pair (ev_var ((Sl.me r1).set Ex.refl)) (ev_tupleQ (ev_var (Sl.hr r2))))).is (by rw [List.map_map]; rfl))
      A0 nb nbl (by simp) (e1.keep a _ nb (by simp) ha) cl_Menu n_Menu_own_columns (by decide) fun v2 H2 e2 ok2 r2 ha2 => ?_
    refine (ev_f1 (x := Sq.mk ((z.l.map unQ).map toQ)) ((ev_fldR A0 nb ha2 cl_Menu n_Menu_own_columns (by rfl) r2).cv fun _ _ r => r.colsTQ) few) H2 Ex.refl ok2 _ fun v3 H3 e3 r3 => ?_
    obtain ⟨p, ys, rfl, hh, _, _, pp⟩ := r3.lst
    refine ⟨p, ys, rfl, SqL.of hh, fun l o hl hc hd => ?_⟩
    have ok3 := ok2.ex e3
    have ha3 := e3.keep a _ nb (by simp) ha2
    have nal : a ≠ l := ne_of_none ha3 hl
    refine ⟨.ref a, A0, a, _, dx, _, rfl, (by rw [upd_ne nal]; exact ha3), cl_Menu, n_Menu_own_kinds, (by show 1 < 1000; decide), ?_⟩
    have en : Ex W (a :: dx :: M) H3 (upd H3 l (.frz o (.tup ys))) := Ex.new hl
    have em : Ex W [a] (upd H3 l (.frz o (.tup ys))) (upd (upd H3 l (.frz o (.tup ys))) a (.ins (W.C "Menu") dx (putF "own_kinds" (.ref l) (putF "own_columns" v2 [])))) := Ex.mut nb nbl (by simp)
    have em' := em.sub (N := a :: dx :: M) (by simp)
    have ef : putF "own_kinds" (.ref l) (putF "own_columns" v2 []) = [(("own_columns" : Str), v2), (("own_kinds" : Str), V.ref l)] := by
      show (if ("own_columns" : Str) = "own_kinds" then _ else _) = _
      rw [if_neg ok_ne]; rfl
    refine k _ (((e1.up.trans e2).trans (e3.up.trans (Ex.new hl))).trans em) ?_
    have hl0 : l ∉ (a :: dx :: M) := ok3.new_M hl
    refine ⟨a, dx, v2, o, l, ys, rfl, cut_some.mpr ⟨nb, nm, ?_⟩, (((r2.up e3).ex en).ex em').less.less, cut_some.mpr ⟨ok3.new_b hl, fun h => hl0 (List.mem_cons_of_mem _ (List.mem_cons_of_mem _ h)), ?_⟩, hc, hd, ?_⟩
    · rw [upd_same, ef]
    · rw [upd_ne nal.symm, upd_same]
    · have : Paired (Rep W M _) ys ((kinds (((Sq.mk ((z.l.map unQ).map toQ)).l).map unQ)).map TupK.mk) := Pd.mono pp fun _ _ r => ((r.ex en).ex em').less.less
      rw [unQ_map] at this
      exact this

abbrev s_is_whole : Stmt := topS 9
theorem sc_is_whole : FnScope ["value"] ["value"] (defScope s_is_whole) := ⟨rfl, rfl, rfl, by decide +kernel, rfl, by decide +kernel, by decide +kernel⟩

theorem ok_is_whole {f : Addr} {fd : FuncData} (F : Fun K "is_whole" "is_whole" s_is_whole f fd) (bt : Bt mg) :
    FnOk P w K mg base CX0 1 f fd ["value"] (sp_is_whole K C) := by
  refine F.ok sc_is_whole (fun vs H Q E h => ?_) (fun cdv A outer s H vs Q E hr h => ?_)
  · obtain ⟨W, M, v, z, _, _, rfl, _⟩ := h; rfl
  · obtain ⟨W, M, v, z, rfl, rfl, rfl, ok, r, hz, k⟩ := h
    have S0 : Sl W M (L2.start ["value"] [v]) H 0 z := ⟨v, rfl, r⟩
    refine ⟨_, (pss_one (ps_ret (pe_and (pe_callB call_isi (by rfl) bt.isinstance_ (by decide +kernel) (pa_cons (pv 0) (pa_cons (pe_bltn (v := .ty "int") (by rfl) bt.int_ (by decide +kernel) rfl) pa_nil))) (pe_one (pe_not (pe_callB call_isi (by rfl) bt.isinstance_ (by decide +kernel) (pa_cons (pv 0) (pa_cons (pe_bltn (v := .ty "bool") (by rfl) bt.bool_ (by decide +kernel) rfl) pa_nil)))))))), ?_⟩
    exact s_ret ok (ev_and (ev_isInt (ev_var S0)) fun _ => ev_not (ev_notBool (ev_var S0))) fun v H3 e3 r => k v H3 e3 r

abbrev s_is_number : Stmt := topS 13
theorem sc_is_number : FnScope ["value"] ["value"] (defScope s_is_number) := ⟨rfl, rfl, rfl, by decide +kernel, rfl, by decide +kernel, by decide +kernel⟩

theorem ok_is_number {f : Addr} {fd : FuncData} (F : Fun K "is_number" "is_number" s_is_number f fd) (bt : Bt mg)
    (c_is_whole : Cal P w K mg base 1 "is_whole" ["value"] (sp_is_whole K C)) :
    FnOk P w K mg base CX0 2 f fd ["value"] (sp_is_number K C) := by
  refine F.ok sc_is_number (fun vs H Q E h => ?_) (fun cdv A outer s H vs Q E hr h => ?_)
  · obtain ⟨W, M, v, z, _, _, rfl, _⟩ := h; rfl
  · obtain ⟨W, M, v, z, rfl, rfl, rfl, ok, r, hz, k⟩ := h
    have S0 : Sl W M (L2.start ["value"] [v]) H 0 z := ⟨v, rfl, r⟩
    refine ⟨_, (pss_one (ps_ret (pe_and (pe_call c_is_whole.ok (by exact hr.mono (by decide)) (by rfl) c_is_whole.gl c_is_whole.kp c_is_whole.b .nil pass0 (pa_cons (pv 0) pa_nil)) (pe_one (pe_cmpR op_ge (pv 0) pe_int (nomark _)))))), ?_⟩
    exact s_ret ok ((ev_and (ev_f1 (ev_var S0) trivial) fun _ => ev_B0 (ev_var S0) ev_int).is (by rfl)) fun v H3 e3 r => k v H3 e3 r

abbrev s_is_numbers : Stmt := topS 14
theorem sc_is_numbers : FnScope ["menu", "value", "kind"] ["menu", "value"] (defScope s_is_numbers) := ⟨rfl, rfl, rfl, by decide +kernel, rfl, by decide +kernel, by decide +kernel⟩

theorem ok_is_numbers {f : Addr} {fd : FuncData} (F : Fun K "is_numbers" "is_numbers" s_is_numbers f fd) (bt : Bt mg)
    (i_Menu : OwnC P w K mg base 1 (C "Menu") "__contains__" ["self", "kind"] (sp_Menu_contains K C))
    (c_is_number : Cal P w K mg base 2 "is_number" ["value"] (sp_is_number K C)) :
    FnOk P w K mg base CX0 3 f fd ["menu", "value"] (sp_is_numbers K C) := by
  refine F.ok sc_is_numbers (fun vs H Q E h => ?_) (fun cdv A outer s H vs Q E hr h => ?_)
  · obtain ⟨W, M, v, u, z, d, _, _, rfl, _⟩ := h; rfl
  · obtain ⟨W, M, v, u, m, x, rfl, rfl, rfl, ok, r, rd, hz, k⟩ := h
    have S0 : Sl W M (L2.start ["menu", "value", "kind"] [v, u]) H 0 m := ⟨v, rfl, r⟩
    have S1 : Sl W M (L2.start ["menu", "value", "kind"] [v, u]) H 1 x := ⟨u, rfl, rd⟩
    have hk12 : (kinds m.cols).length ≤ 1000 := by have := kinds_prod m.cols; have := hz.p12; omega
    have hin : ∀ p ∈ x.kvs, TupK.mk p.1 ∈ (kindsT m).l := fun p hp => List.mem_map_of_mem (hz.mem p hp).1
    refine ⟨_, (pss_cons (ps_if (PW.pt (pw_or (pt_not (pt_val (pe_callB call_isi (by rfl) bt.isinstance_ (by decide +kernel) (pa_cons (pv 1) (pa_cons (pe_bltn (v := .ty "dict") (by rfl) bt.dict_ (by decide +kernel) rfl) pa_nil))))) (pw_or1 (pt_not (pt_val (pe_callB (cr_all rfl) (by rfl) bt.all_ (by decide +kernel) (pa_cons (pe_lock (pe_lc (own := [("kind", 2)]) (g := gName 2) rfl sc_is_numbers.nd (pi_keys (pv 1)) (blkOk_by (own := [("kind", 2)]) (N := ["menu", "value", "kind"]) (sc := defScope s_is_numbers) (by decide +kernel)) (fun _ _ _ _ _ => (pg_name (i := 2) sc_is_numbers.nd rfl (Or.inl rfl))) (fun _ _ _ _ _ => pts_nil) (fun _ _ _ _ _ => (pe_cmpR (op_inOwn i_Menu (by exact hr.mono (by decide))) (pv 2) (pv 0) (by rfl))))) pa_nil))))))) (pss_one (ps_ret pe_bl)) pss_nil)
      (pss_one (ps_ret (pe_callB (cr_all rfl) (by rfl) bt.all_ (by decide +kernel) (pa_cons (pe_lock (pe_lc (own := [("kind", 2)]) (g := gName 2) rfl sc_is_numbers.nd (pi_keys (pv 1)) (blkOk_by (own := [("kind", 2)]) (N := ["menu", "value", "kind"]) (sc := defScope s_is_numbers) (by decide +kernel)) (fun _ _ _ _ _ => (pg_name (i := 2) sc_is_numbers.nd rfl (Or.inl rfl))) (fun _ _ _ _ _ => pts_nil) (fun _ _ _ _ _ => (PE.to (pe_call c_is_number.ok (by exact hr.mono (by decide)) (by rfl) c_is_number.gl c_is_number.kp c_is_number.b .nil pass0 (pa_cons (pe_dget (by exact u1 hr) (pv 1) (pv 2) (fun _ _ => rfl)) pa_nil)) (by dsimp only [Cx.blk] <;> rfl))))) pa_nil))))), ?_⟩
    refine s_no ok (Et.is (et_or (et_not (et_b (ev_isDict (ev_var S1)))) fun _ => et_not (et_b (ev_all (ev_lcK (f := fun _ => true) S1 (by decide) hz.len (by decide) fun d od p v' H1 H' hp e1 ok1 hd lk ok' rk =>
      (ev_inM (m := m) (d := PyD.dat (TupK.mk p.1)) (ev_var (Sl.me rk)).toD (ev_var (((lk.sl (S0.up e1)).wipe).set Ex.refl)) hk12 (Nat.le_trans (PyD.depth (TupK.mk p.1)) (by decide))).is (in_place (hin p hp)).1)))) (c := false) (by simp)) fun H1 e1 ok1 => ?_
    refine s_ret ok1 ((ev_all (ev_lcK (f := fun _ => true) (S1.up e1) (by decide) hz.len (by decide) fun d od p v' H2 H' hp e2 ok2 hd lk ok' rk =>
      (ev_f1 (x := p.2) (lk.get (σ := (L2.wipe (L2.start ["menu", "value", "kind"] [v, u]) [2]).set 2 (some v')) (i := 1) hd (ev_var (Sl.me rk)) (mem_lookup hz.nd hp)) trivial).is (decide_eq_true (hz.mem p hp).2))).is (by simp)) fun v H3 e3 r => k v H3 (e1.trans e3) r

abbrev s_Table_init : Stmt := inClass (topS 15) 0
theorem sc_Table_init : FnScope ["self", "menu", "numbers", "kind"] ["self", "menu", "numbers"] (defScope s_Table_init) := ⟨rfl, rfl, rfl, by decide +kernel, rfl, by decide +kernel, by decide +kernel⟩

theorem ok_Table_init {f : Addr} {fd : FuncData} (F : Fun K "__init__" "Table.__init__" s_Table_init f fd) (bt : Bt mg)
    (i_Menu : OwnC P w K mg base 1 (C "Menu") "__contains__" ["self", "kind"] (sp_Menu_contains K C))
    (p_Menu_kinds : PropC P w K mg base 1 (C "Menu") "kinds" (sp_Menu_kinds K C))
    (c_is_number : Cal P w K mg base 2 "is_number" ["value"] (sp_is_number K C))
    (cl_Table : Cls K (C "Table"))
    (n_Table_own_counts : NoAttr K (C "Table") "own_counts")
    (n_Table_own_menu : NoAttr K (C "Table") "own_menu")
    (n_Table_own_there : NoAttr K (C "Table") "own_there") :
    FnOk P w K mg base CX0 3 f fd ["self", "menu", "numbers"] (sp_Table_init K C) := by
  refine F.ok sc_Table_init (fun vs H Q E h => ?_) (fun cdv A outer s H vs Q E hr h => ?_)
  · obtain ⟨W, M, a, dx, v, u, m, x, _, _, rfl, _⟩ := h; rfl
  · obtain ⟨W, M, a, dx, v, u, m, x, rfl, rfl, rfl, ok, nb, nbl, nm, ha, r, rd, hz, k⟩ := h
    have Sm : ∀ o3, Sl W (a :: dx :: M) [some (.ref a), some v, some u, o3] H 1 m := fun o3 => ⟨v, rfl, r⟩
    have Sx : ∀ o3, Sl W (a :: dx :: M) [some (.ref a), some v, some u, o3] H 2 x := fun o3 => ⟨u, rfl, rd⟩
    have hk12 : (kinds m.cols).length ≤ 1000 := by have := kinds_prod m.cols; have := hz.p12; omega
    have hkl : (kindsT m).l.length ≤ 1000000 := by unfold kindsT; rw [List.length_map]; omega
    have hin : ∀ p ∈ x.kvs, TupK.mk p.1 ∈ (kindsT m).l := fun p hp => List.mem_map_of_mem (hz.mem p hp).1
    have hk : k = k := rfl
    refine ⟨_, (pss_cons (ps_if (pt_not (pt_val (pe_callB call_isi (by rfl) bt.isinstance_ (by decide +kernel) (pa_cons (pv 2) (pa_cons (pe_bltn (v := .ty "dict") (by rfl) bt.dict_ (by decide +kernel) rfl) pa_nil))))) (pss_one ps_never) pss_nil)
      (pss_cons (ps_lock (ps_for PassesOwn.never rfl (pi_keys (pv 2)) (pg_name (i := 3) sc_Table_init.nd rfl (Or.inl rfl))
      (pss_one (ps_if (pt_cmpR (op_notInOwn i_Menu (by exact hr.mono (by decide))) (pv 3) (pv 1) (by rfl)) (pss_one ps_never) pss_nil))))
      (pss_cons (ps_for PassesOwn.never rfl (pi_tup (pe_prop (pv 1) p_Menu_kinds.cl p_Menu_kinds.pr p_Menu_kinds.ok (by exact hr.mono (by decide)) p_Menu_kinds.b .nil pass0 rfl)) (pg_name (i := 3) sc_Table_init.nd rfl (Or.inl rfl))
      (pss_one (ps_if (pt_not (pt_val (pe_call c_is_number.ok (by exact hr.mono (by decide)) (by rfl) c_is_number.gl c_is_number.kp c_is_number.b .nil pass0 (pa_cons (pe_dget2 (by exact u1 hr) (pv 2) (pv 3) pe_int ⟨rfl, rfl, rfl, rfl⟩) pa_nil)))) (pss_one ps_never) pss_nil)))
      (pss_cons (ps_fld (pv 0) (pv 1) rfl)
      (pss_cons (ps_fld (pv 0) (pe_callTy cTupOf (by rfl) bt.tuple_ (by decide +kernel) (pa_cons (pe_lc (own := [("kind", 3)]) (g := gName 3) rfl sc_Table_init.nd (pi_tup (pe_prop (pv 1) p_Menu_kinds.cl p_Menu_kinds.pr p_Menu_kinds.ok (by exact hr.mono (by decide)) p_Menu_kinds.b .nil pass0 rfl)) (blkOk_by (own := [("kind", 3)]) (N := ["self", "menu", "numbers", "kind"]) (sc := defScope s_Table_init) (by decide +kernel)) (fun _ _ _ _ _ => (pg_name (i := 3) sc_Table_init.nd rfl (Or.inl rfl))) (fun _ _ _ _ _ => pts_nil) (fun _ _ _ _ _ => (pe_dget2 (by exact u1 hr) (pv 2) (pv 3) pe_int ⟨rfl, rfl, rfl, rfl⟩))) pa_nil)) rfl)
      (pss_one (ps_fld (pv 0) (pe_callTy cTupOf (by rfl) bt.tuple_ (by decide +kernel) (pa_cons (pe_lc (own := [("kind", 3)]) (g := gName 3) rfl sc_Table_init.nd (pi_tup (pe_prop (pv 1) p_Menu_kinds.cl p_Menu_kinds.pr p_Menu_kinds.ok (by exact hr.mono (by decide)) p_Menu_kinds.b .nil pass0 rfl)) (blkOk_by (own := [("kind", 3)]) (N := ["self", "menu", "numbers", "kind"]) (sc := defScope s_Table_init) (by decide +kernel)) (fun _ _ _ _ _ => (pg_name (i := 3) sc_Table_init.nd rfl (Or.inl rfl))) (fun _ _ _ _ _ => (pts_one (pt_cmpR op_gt (pe_dget2 (by exact u1 hr) (pv 2) (pv 3) pe_int ⟨rfl, rfl, rfl, rfl⟩) pe_int (nomark _)))) (fun _ _ _ _ _ => (pv 3))) pa_nil)) rfl))))))), ?_⟩
    refine s_no ok (et_not (b := true) (et_b (ev_isDict (ev_var (Sx none))))) fun H1 e1 ok1 => ?_
    refine s_forK ok1 ((Sx none).up e1) (by decide) (by show 3 < 4; decide) (fun d od p v' σ' H' hp lk ok' rk hσ => ?_) fun σ1 H2 hσ e2 ok2 => ?_
    · have hσ' : ∃ o3, σ' = [some (.ref a), some v, some u, o3] := by
        rcases hσ with rfl | ⟨o, rfl⟩
        · exact ⟨none, rfl⟩
        · exact ⟨o, rfl⟩
      obtain ⟨o3, rfl⟩ := hσ'
      show Et W [] _ [some (.ref a), some v, some u, some v'] H' false
      exact et_t ((ev_own (neg := true) (o := m) (x := PyD.dat (TupK.mk p.1)) (ev_var (i := 3) (x := TupK.mk p.1) ⟨v', rfl, rk⟩).toD (ev_var (i := 1) (lk.sl ((Sm (some v')).up e1))) ⟨hk12, Nat.le_trans (PyD.depth (TupK.mk p.1)) (by decide)⟩).is (by rw [if_pos rfl, (in_place (hin p hp)).1]; rfl))
    obtain ⟨o3, rfl⟩ : ∃ o3, σ1 = [some (.ref a), some v, some u, o3] := by
      rcases hσ with rfl | ⟨o, rfl⟩
      · exact ⟨none, rfl⟩
      · exact ⟨o, rfl⟩
    have e02 := e1.trans e2
    refine for_w ok2 (ei_tup (ev_prop (ev_var ((Sm o3).up e02)) trivial)) (fun i σ' H' => Ex W [] H2 H' ∧ ∃ o3, σ' = [some (.ref a), some v, some u, o3]) (fun H' e => ⟨e, o3, rfl⟩) ?_ ?_
    · rintro i key v' σ' H' hi ⟨e0, o, rfl⟩ ok' H'' e'' r' N hN
      have ok'' := ok'.ex e''
      have ee := (e02.trans e0).trans e''
      refine s_no ok'' (Et.is (et_not (et_b (ev_f1 (x := (x.kvs.lookup key.l).getD 0) (ev_dgetI (ev_var (i := 2) (((Sx o).up ee).set Ex.refl)) (ev_var (i := 3) (Sl.hr r')) ev_int) trivial))) (c := false) ?_) fun H3 e3 ok3 => hN _ _ ⟨(e0.trans e'').trans e3, some v', rfl⟩ e3.up
      have : 0 ≤ (x.kvs.lookup key.l).getD 0 := by
        cases e : x.kvs.lookup key.l with
        | none => exact Int.le_refl _
        | some j => exact (hz.mem _ (lookup_mem e)).2
      rw [decide_eq_true this]; rfl
    · rintro σ' H3 ⟨e3, o, rfl⟩ ok3
      have e03 := e02.trans e3
      have A0 : ∀ {o : Option V}, ([some (.ref a), some v, some u, o] : L2.St)[0]? = some (some (.ref a)) := rfl
      refine s_fld ok3 (ev_var ((Sm o).up e03)) A0 nb nbl (by simp) (e03.keep a _ nb (by simp) ha) cl_Table n_Table_own_menu (by decide) fun v1 H4 e4 ok4 r4 ha4 => ?_
      have e34 : Ex W (a :: dx :: M) H3 H4 := e4.sub (by simp)
      have Sm4 := ((Sm o).up e03).ex e34
      have Sx4 := ((Sx o).up e03).ex e34
      refine s_fld ok4 (x := Tup.mk (tabOf m x).ns) ((ev_tuple (ev_lc (f := fun key : TupK => (x.kvs.lookup key.l).getD 0) (ei_tup (ev_prop (ev_var Sm4) trivial)) hkl (by decide) fun i key v' M' H' hi l r' => ev_dgetI (ev_var (Sx4.lc l)) (ev_var (Sl.me r')) ev_int)).is (by unfold tabOf kindsT; rw [List.map_map]; rfl)) A0 nb nbl (by simp) ha4 cl_Table n_Table_own_counts (by show 1 < 1000; decide) fun v2 H5 e5 ok5 r5 ha5 => ?_
      have e45 : Ex W (a :: dx :: M) H4 H5 := e5.sub (by simp)
      have Sm5 := Sm4.ex e45
      have Sx5 := Sx4.ex e45
      refine s_fld ok5 (x := Tup.mk (there m.cols (tabOf m x).ns)) ((ev_tuple (ev_lcf (p := fun key : TupK => decide ((x.kvs.lookup key.l).getD 0 > 0)) (f := fun key : TupK => key) (ei_tup (ev_prop (ev_var Sm5) trivial)) hkl (by decide) (fun i key v' M' H' hi l r' => et_t (ev_B0 (ev_dgetI (ev_var (Sx5.lc l)) (ev_var (Sl.me r')) ev_int) ev_int)) fun i key v' M' H' hi hp l r' => ev_var (Sl.me r'))).is (there_eq hz).symm) A0 nb nbl (by simp) ha5 cl_Table n_Table_own_there (by show 2 < 1000; decide) fun v3 H6 e6 ok6 r6 ha6 => ?_
      have e56 : Ex W (a :: dx :: M) H5 H6 := e6.sub (by simp)
      have eA : Ex W [a] H H6 := ((e03.sub (N := [a]) (by simp)).trans e4).trans (e5.trans e6)
      refine k _ eA ⟨a, dx, v1, v2, v3, rfl, cut_some.mpr ⟨nb, nm, ?_⟩, (((r4.ex e45).ex e56)).less.less, (r5.ex e56).less.less, r6.less.less⟩
      rw [ha6, putF3]

abbrev s_Table_counted : Stmt := inClass (topS 15) 1
theorem sc_Table_counted : FnScope ["cls", "menu", "counts", "count"] ["cls", "menu", "counts"] (defScope s_Table_counted) := ⟨rfl, rfl, rfl, by decide +kernel, rfl, by decide +kernel, by decide +kernel⟩

theorem ok_Table_counted {f : Addr} {fd : FuncData} (F : Fun K "counted" "Table.counted" s_Table_counted f fd) (bt : Bt mg)
    (l_Menu : OwnC P w K mg base 1 (C "Menu") "__len__" ["self"] (sp_Menu_len K C))
    (c_is_number : Cal P w K mg base 2 "is_number" ["value"] (sp_is_number K C))
    (m_Table : MakC P w K mg base 3 (C "Table") "Table" ["self", "menu", "numbers"] (sp_Table_init K C))
    (p_Menu_kinds : PropC P w K mg base 1 (C "Menu") "kinds" (sp_Menu_kinds K C)) :
    FnOk P w K mg base CX0 5 f fd ["cls", "menu", "counts"] (sp_Table_counted K C) := by
  refine F.ok sc_Table_counted (fun vs H Q E h => ?_) (fun cdv A outer s H vs Q E hr h => ?_)
  · obtain ⟨W, M, v, u, m, ns, _, _, rfl, _⟩ := h; rfl
  · obtain ⟨W, M, v, u, m, ns, rfl, rfl, rfl, ok, r, rn, hz, k⟩ := h
    have S1 : Sl W M (L2.start ["cls", "menu", "counts", "count"] [.ref (W.C "Table"), v, u]) H 1 m := ⟨v, rfl, r⟩
    have S2 : Sl W M (L2.start ["cls", "menu", "counts", "count"] [.ref (W.C "Table"), v, u]) H 2 ns := ⟨u, rfl, rn⟩
    have hl : ((kinds m.cols).length : Int) = ns.l.length := by rw [hz.len]
    have hk12 := hz.k12
    have hn12 := hz.n12
    refine ⟨_, (pss_cons (ps_if (PW.pt (pw_or (pt_not (pt_val (pe_callB call_isiT (by rfl) bt.isinstance_ (by decide +kernel) (pa_cons (pv 2) (pa_cons (pe_tup (pa_cons (pe_bltn (v := .ty "list") (by rfl) bt.list_ (by decide +kernel) rfl) (pa_cons (pe_bltn (v := .ty "tuple") (by rfl) bt.tuple_ (by decide +kernel) rfl) pa_nil))) pa_nil))))) (pw_or1 (pt_cmpR op_ne (pe_callB cLenS (by rfl) bt.len_ (by decide +kernel) (pa_cons (pv 2) pa_nil)) (pe_callB (cLenOwn l_Menu (by exact hr.mono (by decide))) (by rfl) bt.len_ (by decide +kernel) (pa_cons (pv 1) pa_nil)) (nomark _))))) (pss_one ps_never) pss_nil)
      (pss_cons (ps_if (pt_not (pt_val (pe_callB (cr_all rfl) (by rfl) bt.all_ (by decide +kernel) (pa_cons (pe_lc (own := [("count", 3)]) (g := gName 3) rfl sc_Table_counted.nd (pi_seq (pv 2)) (blkOk_by (own := [("count", 3)]) (N := ["cls", "menu", "counts", "count"]) (sc := defScope s_Table_counted) (by decide +kernel)) (fun _ _ _ _ _ => (pg_name (i := 3) sc_Table_counted.nd rfl (Or.inl rfl))) (fun _ _ _ _ _ => pts_nil) (fun _ _ _ _ _ => (PE.to (pe_call c_is_number.ok (by exact hr.mono (by decide)) (by rfl) c_is_number.gl c_is_number.kp c_is_number.b .nil pass0 (pa_cons (pv 3) pa_nil)) (by dsimp only [Cx.blk] <;> rfl)))) pa_nil)))) (pss_one ps_never) pss_nil)
      (pss_one (ps_ret (pe_makeL (i := 0) m_Table.mo m_Table.ok (by exact hr.mono (by decide)) m_Table.b (pa_cons (pv 1) (pa_cons (pe_dictZip rfl (by exact hr.units) (by rfl) bt.dict_ (by rfl) bt.zip_ (pa_cons (pe_prop (pv 1) p_Menu_kinds.cl p_Menu_kinds.pr p_Menu_kinds.ok (by exact hr.mono (by decide)) p_Menu_kinds.b .nil pass0 rfl) (pa_cons (pv 2) pa_nil))) pa_nil))))))), ?_⟩
    refine s_no ok (Et.is (et_or (et_not (et_b (ev_isSq (ev_var S2)))) fun _ => et_t (ev_ne (ev_lenQ (ev_var S2)) (ev_lenO (ev_var S1) trivial (by omega) (by show ((kinds m.cols).length : Int) < _; omega)))) (c := false) (by rw [hl]; simp)) fun H1 e1 ok1 => ?_
    refine s_no ok1 (Et.is (et_not (et_b (ev_all (ev_lc (f := fun n : Int => decide (n ≥ 0)) (ei_seq (ev_var (S2.up e1))) (by omega) (by decide) fun i n v' M' H' hi l r' => ev_f1 (ev_var (Sl.me r')) trivial)))) (c := false) ?_) fun H2 e2 ok2 => ?_
    · rw [show (ns.l.map fun n : Int => decide (n ≥ 0)).all id = true from ?_]
      · rfl
      · rw [List.all_map, List.all_eq_true]
        intro n hn
        exact decide_eq_true (hz.nn n hn)
    · have e12 := e1.trans e2
      refine s_ret ok2 (ev_makeL rfl ((ev_make2 (x := m) (y := Di.mk (((kindsT m).l.map TupK.l).zip ns.l)) (ev_var (S1.up e12)) (ev_dzip (ks := kindsT m) (ns := ns) (ev_prop (ev_var (S1.up e12)) trivial) (ev_var (S2.up e12)) ?_ ?_) ?_).is ?_)) fun v H3 e3 r => k v H3 (e12.trans e3) r
      · unfold kindsT; rw [List.length_map]; omega
      · exact kindsT_nd fun c hc => (hz.pl.col c hc).nd
      · obtain ⟨mc⟩ := m
        rw [kinds_l]; exact hz.okD
      · obtain ⟨mc⟩ := m
        rw [kinds_l]; exact hz.tab

abbrev s_Table_read : Stmt := inClass (topS 15) 2
theorem sc_Table_read : FnScope ["cls", "menu", "text", "counts"] ["cls", "menu", "text"] (defScope s_Table_read) := ⟨rfl, rfl, rfl, by decide +kernel, rfl, by decide +kernel, by decide +kernel⟩

theorem ok_Table_read {f : Addr} {fd : FuncData} (F : Fun K "read" "Table.read" s_Table_read f fd) (bt : Bt mg)
    (c_counts_in : Cal P w K mg base 3 "counts_in" ["menu", "text"] (sp_counts_in K C))
    (k_Table_counted : CmC P w K mg base 5 (C "Table") "Table" "counted" ["cls", "menu", "counts"] (sp_Table_counted K C)) :
    FnOk P w K mg base CX0 6 f fd ["cls", "menu", "text"] (sp_Table_read K C) := by
  refine F.ok sc_Table_read (fun vs H Q E h => ?_) (fun cdv A outer s H vs Q E hr h => ?_)
  · obtain ⟨W, M, v, m, ns, _, _, rfl, _⟩ := h; rfl
  · obtain ⟨W, M, v, m, ns, rfl, rfl, rfl, ok, r, hz, hb, k⟩ := h
    have S1 : Sl W M (L2.start ["cls", "menu", "text", "counts"] [.ref (W.C "Table"), v, .str (tabText m.cols ns)]) H 1 m := ⟨v, rfl, r⟩
    refine ⟨_, (pss_cons (ps_set (i := 3) sc_Table_read.nd rfl (.inl rfl) (pe_call c_counts_in.ok (by exact hr.mono (by decide)) (by rfl) c_counts_in.gl c_counts_in.kp c_counts_in.b .nil pass0 (pa_cons (pv 1) (pa_cons (pv 2) pa_nil))))
      (pss_cons (ps_if (pt_cmpR op_isN (pv 3) pe_non (nomark _)) (pss_one ps_never) pss_nil)
      (pss_one (ps_ret (ClX.pe_cmeth (pv 0) k_Table_counted.rd k_Table_counted.cm (fnR_of k_Table_counted.ok k_Table_counted.b) (by exact hr.mono (by decide)) pass0 (pa_cons (pv 1) (pa_cons (pv 3) pa_nil))))))), ?_⟩
    refine s_set ok (x := ns) (fun H1 e1 ok1 Q q => ⟨v, rfl, .str (tabText m.cols ns), rfl, W, M, v, m, ns, rfl, rfl, rfl, ok1, r.up e1, hz, hb, fun r' H2 e2 rr => q r' H2 e2 rr⟩) fun v3 H1 e1 ok1 r1 => ?_
    obtain ⟨p, vs, rfl, hp, _, _, pp⟩ := id r1.lst
    refine s_no ok1 (et_t (ev_isNone (ev_var (i := 3) (x := ns) ⟨_, rfl, r1⟩))) fun H2 e2 ok2 => ?_
    have S3 : Sl W M [some (.ref (W.C "Table")), some v, some (.str (tabText m.cols ns)), some (.ref p)] H2 3 ns := ⟨_, rfl, r1.up e2⟩
    exact ⟨.ref (W.C "Table"), rfl, rfl, v, rfl, .ref p, rfl, W, M, v, .ref p, m, ⟨ns⟩, rfl, rfl, rfl, ok2, (r.up e1).up e2, (r1.up e2).toSq, hz, fun r H3 e3 rr => k r H3 ((e1.trans e2).trans e3) rr⟩

abbrev s_Table_menu : Stmt := inClass (topS 15) 3
theorem sc_Table_menu : FnScope ["self"] ["self"] (defScope s_Table_menu) := ⟨rfl, rfl, rfl, by decide +kernel, rfl, by decide +kernel, by decide +kernel⟩

theorem ok_Table_menu {f : Addr} {fd : FuncData} (F : Fun K "menu" "Table.menu" s_Table_menu f fd) (bt : Bt mg)
    (cl_Table : Cls K (C "Table"))
    (n_Table_own_menu : NoAttr K (C "Table") "own_menu") :
    FnOk P w K mg base CX0 1 f fd ["self"] (sp_Table_menu K C) := by
  refine F.ok sc_Table_menu (fun vs H Q E h => ?_) (fun cdv A outer s H vs Q E hr h => ?_)
  · obtain ⟨W, M, v, z, _, _, rfl, _⟩ := h; rfl
  · obtain ⟨W, M, v, z, rfl, rfl, rfl, ok, r, hz, k⟩ := h
    have S0 : Sl W M (L2.start ["self"] [v]) H 0 z := ⟨v, rfl, r⟩
    refine ⟨_, (pss_one (ps_ret (pe_fld (pv 0) rfl))), ?_⟩
    exact s_ret ok (tb_menu (ev_var S0) cl_Table n_Table_own_menu) fun v H3 e3 r => k v H3 e3 r

abbrev s_Table_rows : Stmt := inClass (topS 15) 4
theorem sc_Table_rows : FnScope ["self"] ["self"] (defScope s_Table_rows) := ⟨rfl, rfl, rfl, by decide +kernel, rfl, by decide +kernel, by decide +kernel⟩

theorem ok_Table_rows {f : Addr} {fd : FuncData} (F : Fun K "rows" "Table.rows" s_Table_rows f fd) (bt : Bt mg)
    (cl_Table : Cls K (C "Table"))
    (n_Table_own_counts : NoAttr K (C "Table") "own_counts") :
    FnOk P w K mg base CX0 1 f fd ["self"] (sp_Table_rows K C) := by
  refine F.ok sc_Table_rows (fun vs H Q E h => ?_) (fun cdv A outer s H vs Q E hr h => ?_)
  · obtain ⟨W, M, v, z, _, _, rfl, _⟩ := h; rfl
  · obtain ⟨W, M, v, z, rfl, rfl, rfl, ok, r, hz, k⟩ := h
    have S0 : Sl W M (L2.start ["self"] [v]) H 0 z := ⟨v, rfl, r⟩
    refine ⟨_, (pss_one (ps_ret (pe_callB (cr_sumT rfl) (by rfl) bt.sum_ (by decide +kernel) (pa_cons (pe_fld (pv 0) rfl) pa_nil)))), ?_⟩
    exact s_ret ok (ev_sumT (tb_counts (ev_var S0) cl_Table n_Table_own_counts)) fun v H3 e3 r => k v H3 e3 r

abbrev s_Table_iter : Stmt := inClass (topS 15) 5
theorem sc_Table_iter : FnScope ["self"] ["self"] (defScope s_Table_iter) := ⟨rfl, rfl, rfl, by decide +kernel, rfl, by decide +kernel, by decide +kernel⟩

theorem ok_Table_iter {f : Addr} {fd : FuncData} (F : Fun K "__iter__" "Table.__iter__" s_Table_iter f fd) (bi : Binds K fd ["self"] []) (bt : Bt mg)
    (cl_Table : Cls K (C "Table"))
    (n_Table_own_there : NoAttr K (C "Table") "own_there") :
    FnRS P w K mg base 1 f (fun n => sp_Table_iter K C n) := by
  refine fun_sized F sc_Table_iter bi (fun n vs H Q E h => ?_) (fun cdv A outer s H vs Q E hr h => ?_)
  · obtain ⟨W, M, v, x, _, _, rfl, _⟩ := h; rfl
  · obtain ⟨W, M, v, x, rfl, rfl, rfl, ok, r, k⟩ := h
    have S0 : Sl W M (L2.start ["self"] [v]) H 0 x := ⟨v, rfl, r⟩
    refine ⟨_, (pss_one (ps_ret (pe_callB cIterT (by rfl) bt.iter_ (by decide +kernel) (pa_cons (pe_fld (pv 0) rfl) pa_nil)))), ?_⟩
    refine tb_there (ev_var S0) cl_Table n_Table_own_there H Ex.refl ok _ fun v1 H1 e1 r1 => ?_
    obtain ⟨l, vs, rfl, hl, _, _, _⟩ := id r1.tup
    exact ⟨l, vs, rfl, .inl hl, fun it hit hn => k l it H1 e1 r1 hit hn⟩

abbrev s_Table_getitem : Stmt := inClass (topS 15) 6
theorem sc_Table_getitem : FnScope ["self", "kind"] ["self", "kind"] (defScope s_Table_getitem) := ⟨rfl, rfl, rfl, by decide +kernel, rfl, by decide +kernel, by decide +kernel⟩

theorem ok_Table_getitem {f : Addr} {fd : FuncData} (F : Fun K "__getitem__" "Table.__getitem__" s_Table_getitem f fd) (bt : Bt mg)
    (h_Menu_place : MetC P w K mg base 2 (C "Menu") "place" ["self", "kind"] (sp_Menu_place K C))
    (cl_Table : Cls K (C "Table"))
    (n_Table_own_counts : NoAttr K (C "Table") "own_counts")
    (n_Table_own_menu : NoAttr K (C "Table") "own_menu") :
    FnOk P w K mg base CX0 3 f fd ["self", "kind"] (sp_Table_getitem K C) := by
  refine F.ok sc_Table_getitem (fun vs H Q E h => ?_) (fun cdv A outer s H vs Q E hr h => ?_)
  · obtain ⟨W, M, v, u, z, d, _, _, rfl, _⟩ := h; rfl
  · obtain ⟨W, M, v, u, t, key, rfl, rfl, rfl, ok, r, rk, ⟨hT, hm⟩, k⟩ := h
    have S0 : Sl W M (L2.start ["self", "kind"] [v, u]) H 0 t := ⟨v, rfl, r⟩
    have S1 : Sl W M (L2.start ["self", "kind"] [v, u]) H 1 key := ⟨u, rfl, rk⟩
    have hin : key ∈ (kindsT ⟨t.cols⟩).l := by obtain ⟨kl⟩ := key; exact List.mem_map_of_mem hm
    refine ⟨_, (pss_one (ps_ret (pe_ix ix_tup (pe_fld (pv 0) rfl) (pe_meth (pe_fld (pv 0) rfl) h_Menu_place.cl h_Menu_place.me h_Menu_place.ok (by exact hr.mono (by decide)) h_Menu_place.b .nil pass0 (pa_cons (pv 1) pa_nil)) (fun _ _ => rfl)))), ?_⟩
    refine s_ret ok (ev_ixT (xs := Tup.mk t.ns) (tb_counts (ev_var S0) cl_Table n_Table_own_counts) (ev_m1 (tb_menu (ev_var S0) cl_Table n_Table_own_menu) (ev_var S1).toD ⟨by have := hT.k12; show (kinds t.cols).length ≤ 1000; omega, Nat.le_trans (PyD.depth key) (by decide), in_place hin⟩ (by decide +kernel)) (place_num hT hm)) fun v H3 e3 r => k v H3 e3 r

abbrev s_Table_counts : Stmt := inClass (topS 15) 7
theorem sc_Table_counts : FnScope ["self"] ["self"] (defScope s_Table_counts) := ⟨rfl, rfl, rfl, by decide +kernel, rfl, by decide +kernel, by decide +kernel⟩

theorem ok_Table_counts {f : Addr} {fd : FuncData} (F : Fun K "counts" "Table.counts" s_Table_counts f fd) (bt : Bt mg)
    (cl_Table : Cls K (C "Table"))
    (n_Table_own_counts : NoAttr K (C "Table") "own_counts") :
    FnOk P w K mg base CX0 1 f fd ["self"] (sp_Table_counts K C) := by
  refine F.ok sc_Table_counts (fun vs H Q E h => ?_) (fun cdv A outer s H vs Q E hr h => ?_)
  · obtain ⟨W, M, v, z, _, _, rfl, _⟩ := h; rfl
  · obtain ⟨W, M, v, z, rfl, rfl, rfl, ok, r, hz, k⟩ := h
    have S0 : Sl W M (L2.start ["self"] [v]) H 0 z := ⟨v, rfl, r⟩
    refine ⟨_, (pss_one (ps_ret (pe_callTy cListOf (by rfl) bt.list_ (by decide +kernel) (pa_cons (pe_fld (pv 0) rfl) pa_nil)))), ?_⟩
    exact s_retN ok (evn_listT (tb_counts (ev_var S0) cl_Table n_Table_own_counts)) fun p H3 hn e3 r => k p H3 hn e3 r

abbrev s_Table_key : Stmt := inClass (topS 15) 8
theorem sc_Table_key : FnScope ["self", "count"] ["self"] (defScope s_Table_key) := ⟨rfl, rfl, rfl, by decide +kernel, rfl, by decide +kernel, by decide +kernel⟩

theorem ok_Table_key {f : Addr} {fd : FuncData} (F : Fun K "key" "Table.key" s_Table_key f fd) (bt : Bt mg)
    (p_Table_rows : PropC P w K mg base 1 (C "Table") "rows" (sp_Table_rows K C))
    (cl_Table : Cls K (C "Table"))
    (n_Table_own_counts : NoAttr K (C "Table") "own_counts") :
    FnOk P w K mg base CX0 3 f fd ["self"] (sp_Table_key K C) := by
  refine F.ok sc_Table_key (fun vs H Q E h => ?_) (fun cdv A outer s H vs Q E hr h => ?_)
  · obtain ⟨W, M, v, z, _, _, rfl, _⟩ := h; rfl
  · obtain ⟨W, M, v, z, rfl, rfl, rfl, ok, r, hz, k⟩ := h
    have S0 : Sl W M (L2.start ["self", "count"] [v]) H 0 z := ⟨v, rfl, r⟩
    have hn12 := hz.n12
    refine ⟨_, (pss_one (ps_ret (pe_tup (pa_cons (pe_prop (pv 0) p_Table_rows.cl p_Table_rows.pr p_Table_rows.ok (by exact hr.mono (by decide)) p_Table_rows.b .nil pass0 rfl) (pa_cons (pe_callTy cTupOf (by rfl) bt.tuple_ (by decide +kernel) (pa_cons (pe_lc (own := [("count", 1)]) (g := gName 1) rfl sc_Table_key.nd (pi_tup (pe_fld (pv 0) rfl)) (blkOk_by (own := [("count", 1)]) (N := ["self", "count"]) (sc := defScope s_Table_key) (by decide +kernel)) (fun _ _ _ _ _ => (pg_name (i := 1) sc_Table_key.nd rfl (Or.inl rfl))) (fun _ _ _ _ _ => pts_nil) (fun _ _ _ _ _ => (pe_un un_neg (pv 1)))) pa_nil)) pa_nil))))), ?_⟩
    exact s_ret ok (ev_pair (x := z.ns.sum) (y := Tup.mk (z.ns.map fun n => -n)) (ev_prop (ev_var S0) trivial) (ev_tuple (ev_lc (f := fun n : Int => -n) (ei_tup (tb_counts (ev_var S0) cl_Table n_Table_own_counts)) (by show z.ns.length ≤ _; omega) (by decide) fun i n v' M' H' hi l r' => ev_U (ev_var (Sl.me r'))))) fun v H3 e3 r => k v H3 e3 r

abbrev s_Table_check_menu : Stmt := inClass (topS 15) 9
theorem sc_Table_check_menu : FnScope ["self", "other"] ["self", "other"] (defScope s_Table_check_menu) := ⟨rfl, rfl, rfl, by decide +kernel, rfl, by decide +kernel, by decide +kernel⟩

theorem ok_Table_check_menu {f : Addr} {fd : FuncData} (F : Fun K "check_menu" "Table.check_menu" s_Table_check_menu f fd) (bt : Bt mg)
    (h_Menu_same : MetC P w K mg base 1 (C "Menu") "same" ["self", "other"] (sp_Menu_same K C))
    (cl_Table : Cls K (C "Table"))
    (n_Table_own_menu : NoAttr K (C "Table") "own_menu") :
    FnOk P w K mg base CX0 2 f fd ["self", "other"] (sp_Table_check_menu K C) := by
  refine F.ok sc_Table_check_menu (fun vs H Q E h => ?_) (fun cdv A outer s H vs Q E hr h => ?_)
  · obtain ⟨W, M, v, u, z, d, _, _, rfl, _⟩ := h; rfl
  · obtain ⟨W, M, v, u, t, t', rfl, rfl, rfl, ok, r, rk, hz, k⟩ := h
    have S0 : Sl W M (L2.start ["self", "other"] [v, u]) H 0 t := ⟨v, rfl, r⟩
    have S1 : Sl W M (L2.start ["self", "other"] [v, u]) H 1 t' := ⟨u, rfl, rk⟩
    refine ⟨_, (pss_one (ps_if (pt_not (pt_val (pe_meth (pe_fld (pv 0) rfl) h_Menu_same.cl h_Menu_same.me h_Menu_same.ok (by exact hr.mono (by decide)) h_Menu_same.b .nil pass0 (pa_cons (pe_fld (pv 1) rfl) pa_nil)))) (pss_one ps_never) pss_nil)), ?_⟩
    refine s_no ok (Et.is (et_not (et_b (ev_m1 (tb_menu (ev_var S0) cl_Table n_Table_own_menu) (tb_menu (ev_var S1) cl_Table n_Table_own_menu) trivial (by decide +kernel)))) (c := false) (by rw [colsT_eq, decide_eq_true hz]; rfl)) fun H1 e1 ok1 => ?_
    exact k .non H1 e1 rfl

abbrev s_Table_add : Stmt := inClass (topS 15) 10
theorem sc_Table_add : FnScope ["self", "other", "one", "two"] ["self", "other"] (defScope s_Table_add) := ⟨rfl, rfl, rfl, by decide +kernel, rfl, by decide +kernel, by decide +kernel⟩

theorem ok_Table_add {f : Addr} {fd : FuncData} (F : Fun K "__add__" "Table.__add__" s_Table_add f fd) (bt : Bt mg)
    (h_Table_check_menu : MetC P w K mg base 2 (C "Table") "check_menu" ["self", "other"] (sp_Table_check_menu K C))
    (k_Table_counted : CmC P w K mg base 5 (C "Table") "Table" "counted" ["cls", "menu", "counts"] (sp_Table_counted K C))
    (cl_Table : Cls K (C "Table"))
    (n_Table_own_counts : NoAttr K (C "Table") "own_counts")
    (n_Table_own_menu : NoAttr K (C "Table") "own_menu") :
    FnOk P w K mg base CX0 6 f fd ["self", "other"] (sp_Table_add K C) := by
  refine F.ok sc_Table_add (fun vs H Q E h => ?_) (fun cdv A outer s H vs Q E hr h => ?_)
  · obtain ⟨W, M, v, u, z, d, _, _, rfl, _⟩ := h; rfl
  · obtain ⟨W, M, v, u, t, t', rfl, rfl, rfl, ok, r, rk, ⟨hT, hU, hc⟩, k⟩ := h
    have S0 : Sl W M (L2.start ["self", "other", "one", "two"] [v, u]) H 0 t := ⟨v, rfl, r⟩
    have S1 : Sl W M (L2.start ["self", "other", "one", "two"] [v, u]) H 1 t' := ⟨u, rfl, rk⟩
    have hn12 := hT.n12
    have hl : t'.ns.length = t.ns.length := by rw [hU.len, hT.len, hc]
    refine ⟨_, (pss_cons (ps_expr (pe_meth (pv 0) h_Table_check_menu.cl h_Table_check_menu.me h_Table_check_menu.ok (by exact hr.mono (by decide)) h_Table_check_menu.b .nil pass0 (pa_cons (pv 1) pa_nil)))
      (pss_one (ps_ret (ClX.pe_cmeth (pe_glob (v := .ref (W.C "Table")) rfl k_Table_counted.gl rfl) k_Table_counted.rd k_Table_counted.cm (fnR_of k_Table_counted.ok k_Table_counted.b) (by exact hr.mono (by decide)) pass0 (pa_cons (pe_fld (pv 0) rfl) (pa_cons (pe_lc (own := [("one", 2), ("two", 3)]) (g := gPair W.K 2 3) rfl sc_Table_add.nd (pi_zipA (by rfl) bt.zip_ (pa_cons (pe_fld (pv 0) rfl) (pa_cons (pe_fld (pv 1) rfl) pa_nil))) (blkOk_by (own := [("one", 2), ("two", 3)]) (N := ["self", "other", "one", "two"]) (sc := defScope s_Table_add) (by decide +kernel)) (fun _ _ _ _ _ => (pg_tup rfl (pgs_cons (pg_name (i := 2) sc_Table_add.nd rfl (Or.inl rfl)) (pgs_cons (pg_name (i := 3) sc_Table_add.nd rfl (Or.inl rfl)) pgs_nil)))) (fun _ _ _ _ _ => pts_nil) (fun _ _ _ _ _ => (pe_op op_add (pv 2) (pv 3)))) pa_nil)))))), ?_⟩
    refine s_drop ok (x := ()) (ev_m1 (ev_var S0) (ev_var S1) hc (by decide +kernel)) fun H1 e1 ok1 => ?_
    exact s_ret ok1 (ev_counted (cs := t.cols) (tb_menu (ev_var (S0.up e1)) cl_Table n_Table_own_menu) ((ev_lc2 (f := fun p : Int × Int => p.1 + p.2) (ei_zipT (xs := Tup.mk t.ns) (ys := Tup.mk t'.ns) (tb_counts (ev_var (S0.up e1)) cl_Table n_Table_own_counts) (tb_counts (ev_var (S1.up e1)) cl_Table n_Table_own_counts)) (by rw [List.length_zip]; show min t.ns.length _ ≤ _; omega) (by decide) (by decide) fun i p v1 v2 M' H' hi l r1 r2 => ev_I0 (ev_var ((Sl.me r1).set Ex.refl)) (ev_var (Sl.hr r2))).sq) (add_ok hT hU hc)) fun v H3 e3 r => k v H3 (e1.trans e3) r

abbrev s_Table_sub : Stmt := inClass (topS 15) 11
theorem sc_Table_sub : FnScope ["self", "other", "one", "two"] ["self", "other"] (defScope s_Table_sub) := ⟨rfl, rfl, rfl, by decide +kernel, rfl, by decide +kernel, by decide +kernel⟩

theorem ok_Table_sub {f : Addr} {fd : FuncData} (F : Fun K "__sub__" "Table.__sub__" s_Table_sub f fd) (bt : Bt mg)
    (h_Table_check_menu : MetC P w K mg base 2 (C "Table") "check_menu" ["self", "other"] (sp_Table_check_menu K C))
    (h_Table_within : MetC P w K mg base 3 (C "Table") "within" ["self", "other"] (sp_Table_within K C))
    (k_Table_counted : CmC P w K mg base 5 (C "Table") "Table" "counted" ["cls", "menu", "counts"] (sp_Table_counted K C))
    (cl_Table : Cls K (C "Table"))
    (n_Table_own_counts : NoAttr K (C "Table") "own_counts")
    (n_Table_own_menu : NoAttr K (C "Table") "own_menu") :
    FnOk P w K mg base CX0 6 f fd ["self", "other"] (sp_Table_sub K C) := by
  refine F.ok sc_Table_sub (fun vs H Q E h => ?_) (fun cdv A outer s H vs Q E hr h => ?_)
  · obtain ⟨W, M, v, u, z, d, _, _, rfl, _⟩ := h; rfl
  · obtain ⟨W, M, v, u, t, t', rfl, rfl, rfl, ok, r, rk, ⟨hT, hU, hc, hle⟩, k⟩ := h
    have S0 : Sl W M (L2.start ["self", "other", "one", "two"] [v, u]) H 0 t := ⟨v, rfl, r⟩
    have S1 : Sl W M (L2.start ["self", "other", "one", "two"] [v, u]) H 1 t' := ⟨u, rfl, rk⟩
    have hn12 := hT.n12
    refine ⟨_, (pss_cons (ps_expr (pe_meth (pv 0) h_Table_check_menu.cl h_Table_check_menu.me h_Table_check_menu.ok (by exact hr.mono (by decide)) h_Table_check_menu.b .nil pass0 (pa_cons (pv 1) pa_nil)))
      (pss_cons (ps_if (pt_not (pt_val (pe_meth (pv 1) h_Table_within.cl h_Table_within.me h_Table_within.ok (by exact hr.mono (by decide)) h_Table_within.b .nil pass0 (pa_cons (pv 0) pa_nil)))) (pss_one ps_never) pss_nil)
      (pss_one (ps_ret (ClX.pe_cmeth (pe_glob (v := .ref (W.C "Table")) rfl k_Table_counted.gl rfl) k_Table_counted.rd k_Table_counted.cm (fnR_of k_Table_counted.ok k_Table_counted.b) (by exact hr.mono (by decide)) pass0 (pa_cons (pe_fld (pv 0) rfl) (pa_cons (pe_lc (own := [("one", 2), ("two", 3)]) (g := gPair W.K 2 3) rfl sc_Table_sub.nd (pi_zipA (by rfl) bt.zip_ (pa_cons (pe_fld (pv 0) rfl) (pa_cons (pe_fld (pv 1) rfl) pa_nil))) (blkOk_by (own := [("one", 2), ("two", 3)]) (N := ["self", "other", "one", "two"]) (sc := defScope s_Table_sub) (by decide +kernel)) (fun _ _ _ _ _ => (pg_tup rfl (pgs_cons (pg_name (i := 2) sc_Table_sub.nd rfl (Or.inl rfl)) (pgs_cons (pg_name (i := 3) sc_Table_sub.nd rfl (Or.inl rfl)) pgs_nil)))) (fun _ _ _ _ _ => pts_nil) (fun _ _ _ _ _ => (pe_op op_sub (pv 2) (pv 3)))) pa_nil))))))), ?_⟩
    refine s_drop ok (x := ()) (ev_m1 (ev_var S0) (ev_var S1) hc (by decide +kernel)) fun H1 e1 ok1 => ?_
    refine s_no ok1 (Et.is (et_not (et_b (ev_m1 (ev_var (S1.up e1)) (ev_var (S0.up e1)) ⟨hU, hc.symm⟩ (by decide +kernel)))) (c := false) (by rw [hle]; rfl)) fun H2 e2 ok2 => ?_
    have e12 := e1.trans e2
    exact s_ret ok2 (ev_counted (cs := t.cols) (tb_menu (ev_var (S0.up e12)) cl_Table n_Table_own_menu) ((ev_lc2 (f := fun p : Int × Int => p.1 - p.2) (ei_zipT (xs := Tup.mk t.ns) (ys := Tup.mk t'.ns) (tb_counts (ev_var (S0.up e12)) cl_Table n_Table_own_counts) (tb_counts (ev_var (S1.up e12)) cl_Table n_Table_own_counts)) (by rw [List.length_zip]; show min t.ns.length _ ≤ _; omega) (by decide) (by decide) fun i p v1 v2 M' H' hi l r1 r2 => ev_I0 (ev_var ((Sl.me r1).set Ex.refl)) (ev_var (Sl.hr r2))).sq) (sub_ok hT hU hc hle)) fun v H3 e3 r => k v H3 (e12.trans e3) r

abbrev s_Table_within : Stmt := inClass (topS 15) 12
theorem sc_Table_within : FnScope ["self", "other", "one", "two"] ["self", "other"] (defScope s_Table_within) := ⟨rfl, rfl, rfl, by decide +kernel, rfl, by decide +kernel, by decide +kernel⟩

theorem ok_Table_within {f : Addr} {fd : FuncData} (F : Fun K "within" "Table.within" s_Table_within f fd) (bt : Bt mg)
    (h_Table_check_menu : MetC P w K mg base 2 (C "Table") "check_menu" ["self", "other"] (sp_Table_check_menu K C))
    (cl_Table : Cls K (C "Table"))
    (n_Table_own_counts : NoAttr K (C "Table") "own_counts") :
    FnOk P w K mg base CX0 3 f fd ["self", "other"] (sp_Table_within K C) := by
  refine F.ok sc_Table_within (fun vs H Q E h => ?_) (fun cdv A outer s H vs Q E hr h => ?_)
  · obtain ⟨W, M, v, u, z, d, _, _, rfl, _⟩ := h; rfl
  · obtain ⟨W, M, v, u, t, t', rfl, rfl, rfl, ok, r, rk, ⟨hT, hc⟩, k⟩ := h
    have S0 : Sl W M (L2.start ["self", "other", "one", "two"] [v, u]) H 0 t := ⟨v, rfl, r⟩
    have S1 : Sl W M (L2.start ["self", "other", "one", "two"] [v, u]) H 1 t' := ⟨u, rfl, rk⟩
    have hn12 := hT.n12
    refine ⟨_, (pss_cons (ps_expr (pe_meth (pv 0) h_Table_check_menu.cl h_Table_check_menu.me h_Table_check_menu.ok (by exact hr.mono (by decide)) h_Table_check_menu.b .nil pass0 (pa_cons (pv 1) pa_nil)))
      (pss_one (ps_ret (pe_callB (cr_all rfl) (by rfl) bt.all_ (by decide +kernel) (pa_cons (pe_lc (own := [("one", 2), ("two", 3)]) (g := gPair W.K 2 3) rfl sc_Table_within.nd (pi_zipA (by rfl) bt.zip_ (pa_cons (pe_fld (pv 0) rfl) (pa_cons (pe_fld (pv 1) rfl) pa_nil))) (blkOk_by (own := [("one", 2), ("two", 3)]) (N := ["self", "other", "one", "two"]) (sc := defScope s_Table_within) (by decide +kernel)) (fun _ _ _ _ _ => (pg_tup rfl (pgs_cons (pg_name (i := 2) sc_Table_within.nd rfl (Or.inl rfl)) (pgs_cons (pg_name (i := 3) sc_Table_within.nd rfl (Or.inl rfl)) pgs_nil)))) (fun _ _ _ _ _ => pts_nil) (fun _ _ _ _ _ => (pe_cmpR op_le (pv 2) (pv 3) (nomark _)))) pa_nil))))), ?_⟩
    refine s_drop ok (x := ()) (ev_m1 (ev_var S0) (ev_var S1) hc (by decide +kernel)) fun H1 e1 ok1 => ?_
    exact s_ret ok1 (ev_all (ev_lc2 (f := fun p : Int × Int => decide (p.1 ≤ p.2)) (ei_zipT (xs := Tup.mk t.ns) (ys := Tup.mk t'.ns) (tb_counts (ev_var (S0.up e1)) cl_Table n_Table_own_counts) (tb_counts (ev_var (S1.up e1)) cl_Table n_Table_own_counts)) (by rw [List.length_zip]; show min t.ns.length _ ≤ _; omega) (by decide) (by decide) fun i p v1 v2 M' H' hi l r1 r2 => ev_B0 (ev_var ((Sl.me r1).set Ex.refl)) (ev_var (Sl.hr r2)))) fun v H3 e3 r => k v H3 (e1.trans e3) r

abbrev s_Table_same : Stmt := inClass (topS 15) 13
theorem sc_Table_same : FnScope ["self", "other"] ["self", "other"] (defScope s_Table_same) := ⟨rfl, rfl, rfl, by decide +kernel, rfl, by decide +kernel, by decide +kernel⟩

theorem ok_Table_same {f : Addr} {fd : FuncData} (F : Fun K "same" "Table.same" s_Table_same f fd) (bt : Bt mg)
    (h_Table_check_menu : MetC P w K mg base 2 (C "Table") "check_menu" ["self", "other"] (sp_Table_check_menu K C))
    (cl_Table : Cls K (C "Table"))
    (n_Table_own_counts : NoAttr K (C "Table") "own_counts") :
    FnOk P w K mg base CX0 3 f fd ["self", "other"] (sp_Table_same K C) := by
  refine F.ok sc_Table_same (fun vs H Q E h => ?_) (fun cdv A outer s H vs Q E hr h => ?_)
  · obtain ⟨W, M, v, u, z, d, _, _, rfl, _⟩ := h; rfl
  · obtain ⟨W, M, v, u, t, t', rfl, rfl, rfl, ok, r, rk, hc, k⟩ := h
    have S0 : Sl W M (L2.start ["self", "other"] [v, u]) H 0 t := ⟨v, rfl, r⟩
    have S1 : Sl W M (L2.start ["self", "other"] [v, u]) H 1 t' := ⟨u, rfl, rk⟩
    refine ⟨_, (pss_cons (ps_expr (pe_meth (pv 0) h_Table_check_menu.cl h_Table_check_menu.me h_Table_check_menu.ok (by exact hr.mono (by decide)) h_Table_check_menu.b .nil pass0 (pa_cons (pv 1) pa_nil)))
      (pss_one (ps_ret (pe_cmpR (op_eqE (by exact hr.units)) (pe_fld (pv 0) rfl) (pe_fld (pv 1) rfl) (nomark _))))), ?_⟩
    refine s_drop ok (x := ()) (ev_m1 (ev_var S0) (ev_var S1) hc (by decide +kernel)) fun H1 e1 ok1 => ?_
    exact s_ret ok1 ((ev_eqD (tb_counts (ev_var (S0.up e1)) cl_Table n_Table_own_counts) (tb_counts (ev_var (S1.up e1)) cl_Table n_Table_own_counts)).is (by simp)) fun v H3 e3 r => k v H3 (e1.trans e3) r

abbrev s_Table_ahead : Stmt := inClass (topS 15) 14
theorem sc_Table_ahead : FnScope ["self", "other"] ["self", "other"] (defScope s_Table_ahead) := ⟨rfl, rfl, rfl, by decide +kernel, rfl, by decide +kernel, by decide +kernel⟩

theorem ok_Table_ahead {f : Addr} {fd : FuncData} (F : Fun K "ahead" "Table.ahead" s_Table_ahead f fd) (bt : Bt mg)
    (h_Table_check_menu : MetC P w K mg base 2 (C "Table") "check_menu" ["self", "other"] (sp_Table_check_menu K C))
    (h_Table_key : MetC P w K mg base 3 (C "Table") "key" ["self"] (sp_Table_key K C)) :
    FnOk P w K mg base CX0 4 f fd ["self", "other"] (sp_Table_ahead K C) := by
  refine F.ok sc_Table_ahead (fun vs H Q E h => ?_) (fun cdv A outer s H vs Q E hr h => ?_)
  · obtain ⟨W, M, v, u, z, d, _, _, rfl, _⟩ := h; rfl
  · obtain ⟨W, M, v, u, t, t', rfl, rfl, rfl, ok, r, rk, ⟨hT, hU, hc⟩, k⟩ := h
    have S0 : Sl W M (L2.start ["self", "other"] [v, u]) H 0 t := ⟨v, rfl, r⟩
    have S1 : Sl W M (L2.start ["self", "other"] [v, u]) H 1 t' := ⟨u, rfl, rk⟩
    refine ⟨_, (pss_cons (ps_expr (pe_meth (pv 0) h_Table_check_menu.cl h_Table_check_menu.me h_Table_check_menu.ok (by exact hr.mono (by decide)) h_Table_check_menu.b .nil pass0 (pa_cons (pv 1) pa_nil)))
      (pss_one (ps_ret (pe_cmpR (op_ltK (by exact u65 hr)) (pe_meth0 (pv 0) h_Table_key.cl h_Table_key.me h_Table_key.ok (by exact hr.mono (by decide)) h_Table_key.b .nil pass0) (pe_meth0 (pv 1) h_Table_key.cl h_Table_key.me h_Table_key.ok (by exact hr.mono (by decide)) h_Table_key.b .nil pass0) (nomark _))))), ?_⟩
    refine s_drop ok (x := ()) (ev_m1 (ev_var S0) (ev_var S1) hc (by decide +kernel)) fun H1 e1 ok1 => ?_
    exact s_ret ok1 (ev_ltK (ev_m0 (ev_var (S0.up e1)) hT (by decide +kernel)) (ev_m0 (ev_var (S1.up e1)) hU (by decide +kernel))) fun v H3 e3 r => k v H3 (e1.trans e3) r

abbrev s_Table_text : Stmt := inClass (topS 15) 15
theorem sc_Table_text : FnScope ["self", "parts", "kind"] ["self"] (defScope s_Table_text) := ⟨rfl, rfl, rfl, by decide +kernel, rfl, by decide +kernel, by decide +kernel⟩

theorem ok_Table_text {f : Addr} {fd : FuncData} (F : Fun K "text" "Table.text" s_Table_text f fd) (bt : Bt mg)
    (ix_Table : OwnC P w K mg base 3 (C "Table") "__getitem__" ["self", "kind"] (sp_Table_getitem K C))
    (fk_ix_Table : PySem.W.fnIn K ix_Table.f = true)
    (cl_Table : Cls K (C "Table"))
    (n_Table_own_there : NoAttr K (C "Table") "own_there") :
    FnOk P w K mg base CX0 5 f fd ["self"] (sp_Table_text K C) := by
  refine F.ok sc_Table_text (fun vs H Q E h => ?_) (fun cdv A outer s H vs Q E hr h => ?_)
  · obtain ⟨W, M, v, z, _, _, rfl, _⟩ := h; rfl
  · obtain ⟨W, M, v, t, rfl, rfl, rfl, ok, r, ⟨hT, hb⟩, k⟩ := h
    have S0 : Sl W M (L2.start ["self", "parts", "kind"] [v]) H 0 t := ⟨v, rfl, r⟩
    have hpl := hT.parts_len
    have hth : (there t.cols t.ns).length ≤ 12 := by unfold there; rw [List.length_map]; unfold tabParts at hpl; rw [List.length_map] at hpl; exact hpl
    have hpos : ∀ key ∈ there t.cols t.ns, key.l ∈ kinds t.cols ∧ 0 < num t.cols t.ns key.l := fun key hk => by
      obtain ⟨y, hy, rfl⟩ := List.mem_map.mp hk
      exact hT.pos_mem hy
    refine ⟨_, (pss_cons (ps_setLc (i := 1) (own := [("kind", 2)]) (g := gName 2) rfl sc_Table_text.nd rfl rfl (sw_true rfl rfl rfl (by decide +kernel)) (pi_tup (pe_fld (pv 0) rfl)) (blkOk_by (own := [("kind", 2)]) (N := ["self", "parts", "kind"]) (sc := defScope s_Table_text) (by decide +kernel)) (fun _ _ _ _ _ => (pg_name (i := 2) sc_Table_text.nd rfl (Or.inl rfl))) (fun _ _ _ _ _ => pts_nil) (fun _ _ _ _ _ => (PE.to (peJoin pe_str (pe_lst (pa_cons (pe_callTy cStrI (by rfl) bt.str_ (by decide +kernel) (pa_cons (pe_ixOwn ix_Table (by exact hr.mono (by decide)) fk_ix_Table (pv 0) (pv 2) (fun _ _ => rfl)) pa_nil)) (pa_star (pv 2) pa_nil)))) (by dsimp only [Cx.blk] <;> rfl))))
      (pss_one (ps_ret (pe_ifExp (pt_cmpR op_gt (pe_callB cLenS (by rfl) bt.len_ (by decide +kernel) (pa_cons (pv 1) pa_nil)) pe_int (nomark _)) (peJoin pe_str (pv 1)) pe_str)))), ?_⟩
    refine s_set ok (x := tabParts t.cols t.ns) ((ev_lc (f := fun key : TupK => partS (num t.cols t.ns key.l) key.l) (ei_tup (tb_there (ev_var S0) cl_Table n_Table_own_there)) (by show (there t.cols t.ns).length ≤ _; omega) (by decide) fun i key v' M' H' hi l r' => ?_).is (by unfold tabParts there; rw [List.map_map]; rfl)) fun v1 H1 e1 ok1 r1 => ?_
    · obtain ⟨hm, hp⟩ := hpos key (List.mem_of_getElem? hi)
      have hlt := hb _ (hT.num_mem hm)
      have hkl := kind_len hm
      have hl3 := hT.pl.l3
      refine (ev_join (ev_str (s := " ")) (ev_lst (ea_cons (ev_strI (ev_ixOwn (o := t) (x := key) (ev_var (S0.lc l)) (ev_var (Sl.me r')) ⟨hT, hm⟩) (log_lt (Int.le_of_lt hp) hlt)) (ea_starK (ev_var (Sl.me r')) ea_nil)) (by rw [List.append_nil, List.length_cons]; omega)) ?_).is (by rw [List.append_nil]; rfl)
      rw [List.append_nil]
      refine Nat.le_trans (join_le (n := 40) fun z hz => ?_) ?_
      · rcases List.mem_cons.mp hz with rfl | hz
        · exact strI_len (Int.le_of_lt hp) hlt
        · have := (isWorth_len (hT.pl.kind hm z hz)).1; omega
      · have e : (" " : Str).length = 1 := by decide +kernel
        rw [e, List.length_cons]; omega
    · have S1 : Sl W M _ H1 1 (tabParts t.cols t.ns) := Sl.hr (σ := L2.start ["self", "parts", "kind"] [v]) r1
      refine s_ret ok1 ((ev_ife (et_t (ev_B0 (ev_lenL (ev_var S1)) ev_int)) (fun _ => ev_join (ev_str (s := ", ")) (ev_var S1) ?_) fun _ => ev_str (s := "nothing")).is ?_) fun v H3 e3 r => k v H3 (e1.trans e3) r
      · refine Nat.le_trans (join_le (n := 200) fun z hz => ?_) ?_
        · obtain ⟨key, hk, rfl⟩ := List.mem_map.mp hz
          obtain ⟨h1, h3⟩ := hT.pos_mem hk
          exact part_len hT.pl h1 (Int.le_of_lt h3) (hb _ (hT.num_mem h1))
        · have e : (", " : Str).length = 2 := by decide +kernel
          rw [e]; omega
      · unfold tabText
        dsimp only
        by_cases c : (tabParts t.cols t.ns).length > 0
        · rw [if_pos c, if_pos (decide_eq_true (show (0 : Int) < ((tabParts t.cols t.ns).length : Int) by omega))]
        · rw [if_neg c, if_neg (fun h => c (by have := of_decide_eq_true h; omega))]

abbrev s_number_in : Stmt := topS 16
theorem sc_number_in : FnScope ["word", "figure"] ["word"] (defScope s_number_in) := ⟨rfl, rfl, rfl, by decide +kernel, rfl, by decide +kernel, by decide +kernel⟩

theorem ok_number_in {f : Addr} {fd : FuncData} (F : Fun K "number_in" "number_in" s_number_in f fd) (bt : Bt mg)
    (g_DIGITS_tables : ∃ t, mg "DIGITS_tables" = some (.str "0123456789" t))
    (g_MOST_FIGURES : ∃ t, mg "MOST_FIGURES" = some (.int 30 t)) :
    FnOk P w K mg base CX0 1 f fd ["word"] (sp_number_in K C) := by
  refine F.ok sc_number_in (fun vs H Q E h => ?_) (fun cdv A outer s H vs Q E hr h => ?_)
  · obtain ⟨W, M, n, _, _, rfl, _⟩ := h; rfl
  · obtain ⟨W, M, n, rfl, rfl, rfl, ok, h1, h30, k⟩ := h
    have S0 : Sl W M (L2.start ["word", "figure"] [.str (strI n)]) H 0 (strI n) := ⟨_, rfl, rep_str⟩
    have hl := strI_len (n := n) (by omega) (by omega)
    have hl30 : ((strI n).length : Int) ≤ 30 := by
      rw [strI_num (by omega)]
      have := numS_len (n := n.toNat) (by omega)
      omega
    obtain ⟨c, t, hc, h48⟩ := numL_ne0 (n := n.toNat) (by omega)
    have htl : (strI n).cps.toList = c :: t := by
      have := tl_strI (n := n) (by omega)
      rw [hc] at this; exact this
    have hl1 : (1 : Int) ≤ (strI n).length := by rw [len_tl, show tl (strI n) = c :: t from htl, List.length_cons]; omega
    have hat : atI (strI n).cps.toList 0 = some c := by rw [htl]; show atI (c :: t) ((0 : Nat) : Int) = some c; exact atI_nat rfl
    have hdig : ((signs (strI n)).map (inS digitsS)).all id = true := by
      rw [List.all_map, List.all_eq_true]
      intro s hs
      obtain ⟨d, rfl, hd⟩ := signs_one hs
      have hd2 : d ∈ numL n.toNat := by rw [← tl_strI (n := n) (by omega)]; exact hd
      have := numL_digits _ d hd2
      show decide (d ∈ digitsS.cps.toList) = true
      have e : ∀ d, 48 ≤ d → d ≤ 57 → d ∈ digitsS.cps.toList := by
        intro d a b
        have e2 : digitsS.cps.toList = [48, 49, 50, 51, 52, 53, 54, 55, 56, 57] := by decide +kernel
        rw [e2]
        have : d = 48 ∨ d = 49 ∨ d = 50 ∨ d = 51 ∨ d = 52 ∨ d = 53 ∨ d = 54 ∨ d = 55 ∨ d = 56 ∨ d = 57 := by omega
        simp; exact this
      exact decide_eq_true (e d this.1 this.2)
    have hne0 : ¬ (⟨#[c]⟩ : Str) = "0" := fun e => by
      have e2 := congrArg tl e
      have e3 : tl ("0" : Str) = [48] := by decide +kernel
      rw [e3] at e2
      have : c = 48 := by injection e2
      exact h48 this
    refine ⟨_, (pss_cons (ps_if (PW.pt (pw_or (pt_not (pt_chain op_le op_le pe_int (pe_callB cLenX (by rfl) bt.len_ (by decide +kernel) (pa_cons (pv 0) pa_nil)) (pe_gI rfl g_MOST_FIGURES))) (pw_or (pt_not (pt_val (pe_callB (cr_all rfl) (by rfl) bt.all_ (by decide +kernel) (pa_cons (pe_lc (own := [("figure", 1)]) (g := gName 1) rfl sc_number_in.nd (pi_str (pv 0)) (blkOk_by (own := [("figure", 1)]) (N := ["word", "figure"]) (sc := defScope s_number_in) (by decide +kernel)) (fun _ _ _ _ _ => (pg_name (i := 1) sc_number_in.nd rfl (Or.inl rfl))) (fun _ _ _ _ _ => pts_nil) (fun _ _ _ _ _ => (pe_cmpR op_inS (pv 1) (pe_gS rfl g_DIGITS_tables) (by rfl)))) pa_nil)))) (pw_or1 (pt_cmpR op_eq (pe_ix ix_str (pv 0) pe_int (fun _ _ => rfl)) pe_str (nomark _)))))) (pss_one (ps_ret pe_int)) pss_nil)
      (pss_one (ps_ret (pe_callTy cIntS (by rfl) bt.int_ (by decide +kernel) (pa_cons (pv 0) pa_nil))))), ?_⟩
    refine s_no ok (Et.is (et_or (et_not (et_t (ev_chain ev_int (ev_lenX (ev_var S0) (by omega)) ev_int))) fun _ => et_or (et_not (et_b (ev_all (ev_lc (f := inS digitsS) (ei_str (ev_var S0)) (by rw [signs_len]; show (strI n).length ≤ _; omega) (by decide) fun i s v' M' H' hi l r' => ev_inS (ev_var (Sl.me r')) ev_str (by obtain ⟨d, e, _⟩ := signs_one (List.mem_of_getElem? hi); exact ⟨d, e⟩))))) fun _ => et_t (ev_eq (ev_ixS (ev_var S0) ev_int (by omega) hat) (ev_str (s := "0")))) (c := false) ?_) fun H1 e1 ok1 => ?_
    · rw [hdig, decide_eq_true hl1, decide_eq_true hl30, decide_eq_false hne0]; rfl
    · refine s_ret ok1 (x := n) ((ev_intS (n := n.toNat) ((ev_var (S0.up e1)).is (strI_num (by omega))) (by omega)).is (by omega)) fun v H3 e3 r => ?_
      cases (show v = .int n from r)
      exact k H3 (e1.trans e3)

abbrev s_counts_in : Stmt := topS 17
theorem sc_counts_in : FnScope ["menu", "text", "counts", "last", "part", "words", "kind"] ["menu", "text"] (defScope s_counts_in) := ⟨rfl, rfl, rfl, by decide +kernel, rfl, by decide +kernel, by decide +kernel⟩

theorem ok_counts_in {f : Addr} {fd : FuncData} (F : Fun K "counts_in" "counts_in" s_counts_in f fd) (bt : Bt mg)
    (l_Menu : OwnC P w K mg base 1 (C "Menu") "__len__" ["self"] (sp_Menu_len K C))
    (h_Menu_place : MetC P w K mg base 2 (C "Menu") "place" ["self", "kind"] (sp_Menu_place K C))
    (i_Menu : OwnC P w K mg base 1 (C "Menu") "__contains__" ["self", "kind"] (sp_Menu_contains K C))
    (c_number_in : Cal P w K mg base 1 "number_in" ["word"] (sp_number_in K C)) :
    FnOk P w K mg base CX0 3 f fd ["menu", "text"] (sp_counts_in K C) := by
  refine F.ok sc_counts_in (fun vs H Q E h => ?_) (fun cdv A outer s H vs Q E hr h => ?_)
  · obtain ⟨W, M, v, m, ns, _, _, rfl, _⟩ := h; rfl
  · obtain ⟨W, M, v, m, ns, rfl, rfl, rfl, ok, r, hT, hb, k⟩ := h
    obtain ⟨cs⟩ := m
    have hT : OkT cs ns := hT
    have Sm : ∀ (o2 o3 o4 o5 o6 : Option V), Sl W M [some v, some (.str (tabText cs ns)), o2, o3, o4, o5, o6] H 0 (Menu.mk cs) := fun _ _ _ _ _ => ⟨v, rfl, r⟩
    have hk12 := hT.k12
    have htl := hT.text_len fun n hn => Int.lt_of_lt_of_le (hb n hn) (by decide)
    have hpl := hT.parts_len
    refine ⟨_, (pss_cons (ps_if (pt_not (pt_val (pe_callB call_isi (by rfl) bt.isinstance_ (by decide +kernel) (pa_cons (pv 1) (pa_cons (pe_bltn (v := .ty "str") (by rfl) bt.str_ (by decide +kernel) rfl) pa_nil))))) (pss_one (ps_ret pe_non)) pss_nil)
      (pss_cons (ps_set (i := 2) sc_counts_in.nd rfl (.inl rfl) (pe_op op_rep (pe_lst (pa_cons pe_int pa_nil)) (pe_callB (cLenOwn l_Menu (by exact hr.mono (by decide))) (by rfl) bt.len_ (by decide +kernel) (pa_cons (pv 0) pa_nil))))
      (pss_cons (ps_set (i := 3) sc_counts_in.nd rfl (.inl rfl) (pe_un un_neg pe_int))
      (pss_cons (ps_for PassesOwn.never rfl (pi_list (pe_ifExp (pt_cmpR op_ne (pv 1) pe_str (nomark _)) (peSplit (pv 1) pe_str) (pe_lst pa_nil))) (pg_name (i := 4) sc_counts_in.nd rfl (Or.inl rfl))
      (pss_cons (ps_set (i := 5) sc_counts_in.nd rfl (.inl rfl) (peSplit (pv 4) pe_str))
      (pss_cons (ps_set (i := 6) sc_counts_in.nd rfl (.inl rfl) (pe_callTy cTupOf (by rfl) bt.tuple_ (by decide +kernel) (pa_cons (pe_slice sl_list (pv 5) (po_some pe_int) po_none) pa_nil)))
      (pss_cons (ps_if (PW.pt (pw_or (pt_cmpR op_eq (pe_call c_number_in.ok (by exact hr.mono (by decide)) (by rfl) c_number_in.gl c_number_in.kp c_number_in.b .nil pass0 (pa_cons (pe_ix ix_list (pv 5) pe_int (fun _ _ => rfl)) pa_nil)) pe_int (nomark _)) (pw_or (pt_cmpR (op_notInOwn i_Menu (by exact hr.mono (by decide))) (pv 6) (pv 0) (by rfl)) (pw_or1 (pt_cmpR op_le (pe_meth (pv 0) h_Menu_place.cl h_Menu_place.me h_Menu_place.ok (by exact hr.mono (by decide)) h_Menu_place.b .nil pass0 (pa_cons (pv 6) pa_nil)) (pv 3) (nomark _)))))) (pss_one (ps_ret pe_non)) pss_nil)
      (pss_cons (ps_set (i := 3) sc_counts_in.nd rfl (.inl rfl) (pe_meth (pv 0) h_Menu_place.cl h_Menu_place.me h_Menu_place.ok (by exact hr.mono (by decide)) h_Menu_place.b .nil pass0 (pa_cons (pv 6) pa_nil)))
      (pss_one (ps_asg (pe_call c_number_in.ok (by exact hr.mono (by decide)) (by rfl) c_number_in.gl c_number_in.kp c_number_in.b .nil pass0 (pa_cons (pe_ix ix_list (pv 5) pe_int (fun _ _ => rfl)) pa_nil)) (pg_sub (pv 2) (pv 3) set_list))))))))
      (pss_one (ps_ret (pv 2))))))), ?_⟩
    refine s_no ok (et_not (b := true) (et_b (ev_isStr (ev_var (i := 1) (x := tabText cs ns) ⟨_, rfl, rep_str⟩)))) fun H1 e1 ok1 => ?_
    refine s_rep (m := 0) ok1 (ev_lenO (ev_var ((Sm _ _ _ _ _).up e1)) trivial (by omega) (by show ((kinds cs).length : Int) < _; omega)) (by omega) (by show ((kinds cs).length : Int) ≤ _; omega) (by show 2 < 7; decide) fun p H2 hp e2 l2 ok2 A2 => ?_
    have hpH : H p = none := e1.free hp
    have pm : p ∉ M := ok.new_M hpH
    have sub : ∀ a ∈ M, a ∈ p :: M := fun a h => by simp [h]
    refine s_set (x := (-1 : Int)) ok2 (ev_U (g := fun i => -i) (m := 1) ev_int) fun v3 H3 e3 ok3 r3 => ?_
    cases (show v3 = .int (-1) from r3)
    have Sm' : ∀ (o2 o3 o4 o5 o6 : Option V), Sl W (p :: M) [some v, some (.str (tabText cs ns)), o2, o3, o4, o5, o6] H3 0 (Menu.mk cs) := fun _ _ _ _ _ => (((Sm _ _ _ _ _).up e1).le l2).up e3
    refine for_w ok3 (ei_list ((ev_ife (y := ([] : List Str)) (et_t (ev_ne (ev_var (i := 1) (x := tabText cs ns) ⟨_, rfl, rep_str⟩) (ev_str (s := "nothing")))) (fun _ => ev_split (ev_var (i := 1) (x := tabText cs ns) ⟨_, rfl, rep_str⟩) (ev_str (s := ", ")) (by decide +kernel) (by omega)) fun _ => ev_lst ea_nil (Nat.zero_le _)).is (text_parts hT)))
      (fun i σ' H' => Ex W [] H H' ∧ Ex W (p :: M) H3 H' ∧ ∃ (dn td : List (List Str)) (o4 o5 o6 : Option V), kinds cs = dn ++ td ∧ (tabParts cs ns).drop i = (td.filter fun k => decide (num cs ns k > 0)).map (fun k => partS (num cs ns k) k) ∧ σ' = [some v, some (.str (tabText cs ns)), some (.ref p), some (.int ((dn.length : Int) - 1)), o4, o5, o6] ∧ Acc W (p :: M) σ' H' 2 p (dn.map (num cs ns) ++ List.replicate td.length 0))
      (fun H' e => ⟨(e1.trans e2).trans (e3.trans e), e.up, [], kinds cs, none, none, none, rfl, rfl, rfl, ?_⟩) ?_ ?_
    · have A3 := (A2.set (l := 3) (v := .int (-1)) e3).up e
      have hn : ((kinds (Menu.mk cs).cols).length : Int).toNat = (kinds cs).length := by simp
      rw [hn] at A3
      exact A3
    · rintro i x vx σ' H' hi ⟨e0, eM, dn, td, o4, o5, o6, hkd, hdr, rfl, A⟩ ok' H'' e'' rx N hN
      have ok'' := ok'.ex e''
      cases (show vx = .str x from rx)
      have hdx : (tabParts cs ns).drop i = x :: (tabParts cs ns).drop (i + 1) := by
        obtain ⟨hlt, hx⟩ := List.getElem?_eq_some_iff.mp hi
        rw [List.drop_eq_getElem_cons hlt, hx]
      rw [hdx] at hdr
      obtain ⟨pre, key, post, rfl, hpre, hpos, rfl, hrest⟩ := next_part hT hdr.symm
      have hkm : key ∈ kinds cs := by rw [hkd]; simp
      have hprem : ∀ k ∈ pre, k ∈ kinds cs := fun k hk => by rw [hkd]; simp [hk]
      have hlt30 := hb _ (hT.num_mem hkm)
      have hplen := part_len hT.pl hkm (Int.le_of_lt hpos) (Int.lt_trans hlt30 (by decide))
      have hkd2 : kinds cs = (dn ++ pre) ++ key :: post := by rw [hkd, List.append_assoc]
      have hpl2 := place_at hT hkd2
      have hin : TupK.mk key ∈ (kindsT ⟨cs⟩).l := List.mem_map_of_mem hkm
      have hkl := kind_len hkm
      have hl3 := hT.pl.l3
      refine s_set ok'' (x := strI (num cs ns key) :: key) ((ev_split (ev_var (i := 4) (x := partS (num cs ns key) key) ⟨_, rfl, rep_str⟩) (ev_str (s := " ")) (by decide +kernel) (by omega)).is (part_split hT.pl hkm (Int.le_of_lt hpos))) fun v5 H5 e5 ok5 r5 => ?_
      refine s_set ok5 (x := Tup.mk key) ((ev_tuple (ev_slL (ev_var (i := 5) (x := strI (num cs ns key) :: key) ⟨v5, rfl, r5⟩) (eo_some ev_int) eo_none)).is (by rw [cutG_from]; rfl)) fun v6 H6 e6 ok6 r6 => ?_
      have S5 : ∀ (o3 : Option V), Sl W (p :: M) [some v, some (.str (tabText cs ns)), some (.ref p), o3, some (.str (partS (num cs ns key) key)), some v5, some v6] H6 5 (strI (num cs ns key) :: key) := fun _ => ⟨v5, rfl, r5.up e6⟩
      have S6 : ∀ (o3 : Option V), Sl W (p :: M) [some v, some (.str (tabText cs ns)), some (.ref p), o3, some (.str (partS (num cs ns key) key)), some v5, some v6] H6 6 (Tup.mk key) := fun _ => ⟨v6, rfl, r6⟩
      have e36 : Ex W (p :: M) H3 H6 := eM.trans (((e''.trans e5).trans e6).up)
      have S0 : ∀ (o3 : Option V), Sl W (p :: M) [some v, some (.str (tabText cs ns)), some (.ref p), o3, some (.str (partS (num cs ns key) key)), some v5, some v6] H6 0 (Menu.mk cs) := fun _ => (Sm' _ _ _ _ _).ex e36
      have hat : atI (strI (num cs ns key) :: key) 0 = some (strI (num cs ns key)) := by show atI _ ((0 : Nat) : Int) = _; exact atI_nat rfl
      have hpre2 : (kinds (Menu.mk cs).cols).length ≤ 1000 ∧ (PyD.dat (Tup.mk key)).depth ≤ 64 := ⟨by show (kinds cs).length ≤ 1000; omega, Nat.le_trans (PyD.depth (Tup.mk key)) (by decide)⟩
      have hh : holds ⟨cs⟩ (PyD.dat (Tup.mk key)) = true := (in_place hin).1
      refine s_no ok6 (Et.is (et_or (et_t (ev_eq (ev_numIn (ev_ixL (ev_var (S5 _)) ev_int hat) (by omega) hlt30) ev_int)) fun _ => et_or (et_t (ev_own (neg := true) (o := Menu.mk cs) (x := PyD.dat (Tup.mk key)) (ev_var (S6 _)).toD (ev_var (S0 _)) hpre2)) fun _ => et_t (ev_B0 (ev_m1 (o := Menu.mk cs) (x := PyD.dat (Tup.mk key)) (ev_var (S0 _)) (ev_var (S6 _)).toD ⟨hpre2.1, hpre2.2, hh, (in_place hin).2⟩ (by decide +kernel)) (ev_vi (i := 3) (n := (dn.length : Int) - 1)))) (c := false) ?_) fun H7 e7 ok7 => ?_
      · rw [if_pos rfl, hh, show placeOf ⟨cs⟩ (PyD.dat (Tup.mk key)) = ((dn ++ pre).length : Int) from hpl2, List.length_append]
        have c1 : ¬ num cs ns key = 0 := by omega
        have c2 : ¬ (((dn.length + pre.length : Nat) : Int) ≤ (dn.length : Int) - 1) := by omega
        rw [decide_eq_false c1, decide_eq_false c2]; rfl
      · refine s_set ok7 (x := ((dn ++ pre).length : Int)) ((ev_m1 (o := Menu.mk cs) (x := PyD.dat (Tup.mk key)) (ev_var ((S0 _).up e7)) (ev_var ((S6 _).up e7)).toD ⟨hpre2.1, hpre2.2, hh, (in_place hin).2⟩ (by decide +kernel)).is hpl2) fun v8 H8 e8 ok8 r8 => ?_
        cases (show v8 = .int _ from r8)
        have e48 := ((((e''.trans e5).trans e6).trans e7).trans e8)
        have A8 : Acc W (p :: M) [some v, some (.str (tabText cs ns)), some (.ref p), some (.int ((dn ++ pre).length : Int)), some (.str (partS (num cs ns key) key)), some v5, some v6] H8 2 p (dn.map (num cs ns) ++ List.replicate (pre ++ key :: post).length 0) := ⟨rfl, (A.up e48).nb, (A.up e48).nbl, (A.up e48).mem, (A.up e48).it⟩
        refine s_setAt (N := M) ok8 A8 (ev_numIn (ev_ixL (ev_var (((S5 _).up e7).up e8)) ev_int hat) (by omega) hlt30) (ev_vi (i := 3)) (by omega) (by simp only [List.length_append, List.length_map, List.length_replicate, List.length_cons]; omega) fun H9 e9 e9' ok9 A9 => ?_
        refine hN _ _ ⟨e9' H (e0.trans e48) ok hpH, eM.trans (e48.up.trans e9), dn ++ pre ++ [key], post, some (.str (partS (num cs ns key) key)), some v5, some v6, by rw [hkd]; simp, hrest, ?_, ?_⟩ (((((e5.trans e6).trans e7).trans e8).up).trans e9)
        · rw [List.length_append, List.length_append, List.length_append]
          have : (((dn.length + pre.length + [key].length : Nat) : Int) - 1) = ((dn.length + pre.length : Nat) : Int) := by simp
          rw [this]
        · have es := step_set hT (dn := dn) (post := post) (key := key) hprem hpre
          have hn : (((dn ++ pre).length : Int)).toNat = dn.length + pre.length := by rw [List.length_append]; omega
          rw [hn, es] at A9
          exact A9
    · rintro σ' H' ⟨e0, eM, dn, td, o4, o5, o6, hkd, hdr, rfl, A⟩ ok'
      rw [List.drop_length] at hdr
      have hz : ∀ k ∈ td, ¬ decide (num cs ns k > 0) = true := by
        have : td.filter (fun k => decide (num cs ns k > 0)) = [] := List.map_eq_nil_iff.mp hdr.symm
        rw [List.filter_eq_nil_iff] at this
        exact this
      have hz2 := zeros hT (pre := td) (fun k hk => by rw [hkd]; simp [hk]) hz
      have hfin : dn.map (num cs ns) ++ List.replicate td.length 0 = ns := by rw [← hz2, ← List.map_append, ← hkd, hT.map_num]
      rw [hfin] at A
      exact s_ret (ok'.sub sub) (ev_var (A.out sub pm)) fun v' H9 e9 r9 => k v' H9 (e0.trans e9) r9

abbrev s_law_bag : Stmt := topS 33
theorem sc_law_bag : FnScope ["_law_script"] ["_law_script"] (defScope s_law_bag) := ⟨rfl, rfl, rfl, by decide +kernel, rfl, by decide +kernel, by decide +kernel⟩

theorem ok_law_bag {f : Addr} {fd : FuncData} (F : Fun K "_law_bag" "_law_bag" s_law_bag f fd) (bt : Bt mg) :
    FnOk P w K mg base CX0 1 f fd ["_law_script"] (sp_law_bag K C) := by
  refine F.ok sc_law_bag (fun vs H Q E h => ?_) (fun cdv A outer s H vs Q E hr h => ?_)
  · obtain ⟨a, ns, rfl, _⟩ := h; rfl
  · obtain ⟨a, ns, rfl, hS, k⟩ := h
    refine ⟨_, (pss_one (ps_ret (pe_lst (pa_cons (pe_callTy cListOf (by rfl) bt.list_ (by decide +kernel) (pa_cons (pv 0) pa_nil)) (pa_cons pe_int (pa_cons pe_int (pa_cons pe_int (pa_cons pe_int pa_nil)))))))), ?_⟩
    refine ⟨.ref a, rfl, a, _, rfl, .inl hS, fun l hl => ⟨(by show 5 ≤ sizeLine; decide), fun b hb => ?_⟩⟩
    have nbl : b ≠ l := fun e => by rw [e, upd_same] at hb; cases hb
    have hb0 : H b = none := by rw [upd_ne nbl] at hb; exact hb
    exact k b l _ hb0 hl nbl.symm rfl

abbrev s_law_draw : Stmt := topS 34
theorem sc_law_draw : FnScope ["_law_bag_here", "_law_size", "_law_cell", "_law_digit", "_law_mixed_here"] ["_law_bag_here", "_law_size"] (defScope s_law_draw) := ⟨rfl, rfl, rfl, by decide +kernel, rfl, by decide +kernel, by decide +kernel⟩

theorem ok_law_draw {f : Addr} {fd : FuncData} (F : Fun K "_law_draw" "_law_draw" s_law_draw f fd) (bt : Bt mg) :
    FnOk P w K mg base CX0 1 f fd ["_law_bag_here", "_law_size"] (sp_law_draw K C) := by
  refine F.ok sc_law_draw (fun vs H Q E h => ?_) (fun cdv A outer s H vs Q E hr h => ?_)
  · obtain ⟨W, M, v, z, _, _, rfl, _⟩ := h; rfl
  · obtain ⟨W, M, v, n, rfl, rfl, rfl, ok, r, ⟨h1, h30⟩, k⟩ := h
    cases (show v = .int n from r)
    obtain ⟨i, m, sd, c, hB⟩ := bs_of ok.bag
    have b0 : Bs W (L2.start ["_law_bag_here", "_law_size", "_law_cell", "_law_digit", "_law_mixed_here"] [.ref W.b, .int n]) 0 := rfl
    have n30 : n.natAbs < 2 ^ 100 := by
      have h2 : (n.natAbs : Int) < 10 ^ 30 := by omega
      have h3 : n.natAbs < 10 ^ 30 := by exact_mod_cast h2
      exact Nat.lt_trans h3 (by decide)
    have hdiv : ∀ x, CDivW x n := fun x => wide_div (by omega) n30 (by decide) (by decide)
    have hpow : ∀ x : Int, 0 ≤ x → x < 2147483647 → CPow x 3 ∧ CPow x 2 := fun x h0 h1 => ⟨⟨by decide, by decide, by omega⟩, ⟨by decide, by decide, by omega⟩⟩
    refine ⟨_, (pss_cons (ps_asg (pe_op op_add (pe_ix ix_list (pv 0) pe_int (fun _ _ => rfl)) pe_int) (pg_sub (pv 0) pe_int set_list))
      (pss_cons (ps_if (PW.pt (pw_and (pt_cmpR op_eq (pe_ix ix_list (pv 0) pe_int (fun _ _ => rfl)) pe_int (nomark _)) (pw_and1 (pt_cmpR op_lt (pe_ix ix_list (pv 0) pe_int (fun _ _ => rfl)) (pe_callB cLenS (by rfl) bt.len_ (by decide +kernel) (pa_cons (pe_ix ix_list (pv 0) pe_int (fun _ _ => rfl)) pa_nil)) (nomark _))))) (pss_cons (ps_set (i := 2) sc_law_draw.nd rfl (.inl rfl) (pe_ix ix_list (pe_ix ix_list (pv 0) pe_int (fun _ _ => rfl)) (pe_ix ix_list (pv 0) pe_int (fun _ _ => rfl)) (fun _ _ => rfl)))
      (pss_cons (ps_asg (pe_op op_add (pe_ix ix_list (pv 0) pe_int (fun _ _ => rfl)) pe_int) (pg_sub (pv 0) pe_int set_list))
      (pss_cons (ps_asg (pe_op op_mul (pe_op op_add (pe_op op_mul pe_int (pe_callB cAbs (by rfl) bt.abs_ (by decide +kernel) (pa_cons (pv 2) pa_nil))) (pe_callTy cInt (by rfl) bt.int_ (by decide +kernel) (pa_cons (pe_cmpR op_lt (pv 2) pe_int (nomark _)) pa_nil))) (pe_callTy cInt (by rfl) bt.int_ (by decide +kernel) (pa_cons (pe_cmpR op_ge (pe_callB cAbs (by rfl) bt.abs_ (by decide +kernel) (pa_cons (pv 2) pa_nil)) (pe_op op_pow pe_int pe_int) (nomark _)) pa_nil))) (pg_sub (pv 0) pe_int set_list))
      (pss_one (ps_asg (pe_op op_mod (pe_callTy cInt (by rfl) bt.int_ (by decide +kernel) (pa_cons (pe_op op_add (pe_op op_add (pe_op op_mul (pe_ix ix_list (pv 0) pe_int (fun _ _ => rfl)) pe_int) (pe_op op_mul (pv 2) pe_int)) pe_int) pa_nil)) pe_int) (pg_sub (pv 0) pe_int set_list)))))) pss_nil)
      (pss_cons (ps_set (i := 3) sc_law_draw.nd rfl (.inl rfl) (pe_op op_mod (pe_callTy cInt (by rfl) bt.int_ (by decide +kernel) (pa_cons (pe_ix ix_list (pv 0) pe_int (fun _ _ => rfl)) pa_nil)) (pv 1)))
      (pss_cons (ps_if (pt_cmpR op_gt (pe_ix ix_list (pv 0) pe_int (fun _ _ => rfl)) pe_int (nomark _)) (pss_cons (ps_asg (pe_op op_fdivW (pe_ix ix_list (pv 0) pe_int (fun _ _ => rfl)) (pv 1)) (pg_sub (pv 0) pe_int set_list))
      (pss_one (ps_ret (pv 3)))) pss_nil)
      (pss_cons (ps_set (i := 4) sc_law_draw.nd rfl (.inl rfl) (pe_op op_mod (pe_callTy cInt (by rfl) bt.int_ (by decide +kernel) (pa_cons (pe_op op_add (pe_ix ix_list (pv 0) pe_int (fun _ _ => rfl)) (pe_op op_mul (pe_ix ix_list (pv 0) pe_int (fun _ _ => rfl)) pe_int)) pa_nil)) pe_int))
      (pss_cons (ps_set (i := 4) sc_law_draw.nd rfl (.inl rfl) (pe_op op_mod (pe_callTy cInt (by rfl) bt.int_ (by decide +kernel) (pa_cons (pe_op op_add (pe_op op_add (pe_op op_pow (pv 4) pe_int) (pe_op op_mul (pe_ix ix_list (pv 0) pe_int (fun _ _ => rfl)) pe_int)) pe_int) pa_nil)) pe_int))
      (pss_one (ps_ret (pe_op op_mod (pe_op op_fdivW (pe_op op_mod (pe_callTy cInt (by rfl) bt.int_ (by decide +kernel) (pa_cons (pe_op op_pow (pv 4) pe_int) pa_nil)) pe_int) pe_int) (pv 1)))))))))), ?_⟩
    refine bs_set ok b0 hB (val_I0 (bs_get b0 hB rfl) val_c) rfl rfl hB.2.1 hB.2.2 fun H1 e1 ok1 hB1 => ?_
    refine if_cut (J := fun σ' H' => σ'.length = 5 ∧ Bs W σ' 0 ∧ σ'[1]? = some (some (.int n)) ∧ Ex W [] H H' ∧ Ok W M H' ∧ ∃ i m sd c, BS W H' i m sd c)
      (ans_and2 (ans_eqI (bs_get b0 hB1 rfl) val_c) (ans_t (val_B0 (bs_get b0 hB1 rfl) (val_len (bs_get b0 hB1 rfl) ok1.bls)))) ?_ ?_ ?_
    · rintro σ' H2 ⟨hσ, b2, n2, e2, ok2, i, m, sd, c, hB⟩
      refine st_set (val_I (val_int (bs_get b2 hB rfl)) (val_var n2) (by omega)) ?_
      have b3 : Bs W (σ'.set 3 (some (.int (m % n)))) 0 := b2.set
      have n3 : (σ'.set 3 (some (.int (m % n))))[1]? = some (some (.int n)) := by rw [List.getElem?_set_ne (by decide)]; exact n2
      have d3 : (σ'.set 3 (some (.int (m % n))))[3]? = some (some (.int (m % n))) := by rw [List.getElem?_set_self (by rw [hσ]; decide)]
      have hm := hB.2.2
      by_cases hp : 0 < m
      · refine st_yes ((ans_t (val_B0 (bs_get b3 hB rfl) val_c)).to (decide_eq_true hp)) ?_
        refine bs_set ok2 b3 hB (val_I (bs_get b3 hB rfl) (val_var n3) (hdiv _)) rfl rfl hB.2.1 (Int.ediv_nonneg hm (by omega)) fun H3 e3 ok3 hB3 => ?_
        exact st_ret (val_var d3) (k _ _ _ ⟨Int.emod_nonneg _ (by omega), Int.emod_lt_of_pos _ (by omega)⟩ (e2.trans e3) rep_int)
      · refine st_no ((ans_t (val_B0 (bs_get b3 hB rfl) val_c)).to (decide_eq_false hp)) ?_
        refine st_set (val_I (val_int (val_I0 (bs_get b3 hB rfl) (val_I (bs_get b3 hB rfl) val_c (.inr (by decide))))) val_c (by decide)) ?_
        generalize hx : (sd + c * 40692) % 2147483647 = x
        have hx0 : 0 ≤ x := by rw [← hx]; exact Int.emod_nonneg _ (by decide)
        have hx1 : x < 2147483647 := by rw [← hx]; exact Int.emod_lt_of_pos _ (by decide)
        have b4 := b3.set (k := 4) (v := .int x)
        have n4 : ((σ'.set 3 (some (.int (m % n)))).set 4 (some (.int x)))[1]? = some (some (.int n)) := by rw [List.getElem?_set_ne (by decide)]; exact n3
        have x4 : ((σ'.set 3 (some (.int (m % n)))).set 4 (some (.int x)))[4]? = some (some (.int x)) := by rw [List.getElem?_set_self (by rw [List.length_set, hσ]; decide)]
        refine st_set (val_I (val_int (val_I0 (val_I0 (val_I (val_var x4) val_c (hpow x hx0 hx1).1) (val_I (bs_get b4 hB rfl) val_c (.inr (by decide)))) val_c)) val_c (by decide)) ?_
        generalize hy : (x ^ (3 : Int).toNat + c * 16807 + 7) % 2147483629 = y
        have hy0 : 0 ≤ y := by rw [← hy]; exact Int.emod_nonneg _ (by decide)
        have hy1 : y < 2147483647 := by rw [← hy]; exact Int.lt_trans (Int.emod_lt_of_pos _ (by decide)) (by decide)
        have n5 : (((σ'.set 3 (some (.int (m % n)))).set 4 (some (.int x))).set 4 (some (.int y)))[1]? = some (some (.int n)) := by rw [List.getElem?_set_ne (by decide)]; exact n4
        have y5 : (((σ'.set 3 (some (.int (m % n)))).set 4 (some (.int x))).set 4 (some (.int y)))[4]? = some (some (.int y)) := by rw [List.getElem?_set_self (by rw [List.length_set, List.length_set, hσ]; decide)]
        refine st_ret (val_I (val_I (val_I (val_int (val_I (val_var y5) val_c (hpow y hy0 hy1).2)) val_c (by decide)) val_c ⟨by decide, by decide⟩) (val_var n5) (by omega)) (k _ _ _ ⟨Int.emod_nonneg _ (by omega), Int.emod_lt_of_pos _ (by omega)⟩ e2 rep_int)
    · intro hJ hb
      have hi : i < (W.ns.map V.int).length := by
        simp only [Bool.and_eq_true, decide_eq_true_eq] at hb
        exact hb.2
      obtain ⟨cell, hc⟩ := ns_at hB1.2.1 hi
      refine st_set (val_ix (bs_get b0 hB1 rfl) (bs_get b0 hB1 rfl) ok1.bls hc) ?_
      have b2 := b0.set (k := 2) (v := .int cell)
      have c2 : ((L2.start ["_law_bag_here", "_law_size", "_law_cell", "_law_digit", "_law_mixed_here"] [.ref W.b, .int n]).set 2 (some (.int cell)))[2]? = some (some (.int cell)) := rfl
      refine bs_set ok1 b2 hB1 (val_I0 (bs_get b2 hB1 rfl) val_c) rfl rfl (by have := hB1.2.1; omega) hB1.2.2 fun H2 e2 ok2 hB2 => ?_
      refine bs_set ok2 b2 hB2 (val_I (val_I0 (val_I val_c (val_abs (val_var c2)) (.inl (by decide))) (val_intB (val_B0 (val_var c2) val_c))) (val_intB (val_B0 (val_abs (val_var c2)) (val_I val_c val_c ⟨by decide, by decide, by decide⟩))) (.inr (if01 _).2)) rfl rfl hB2.2.1 ?_ fun H3 e3 ok3 hB3 => ?_
      · refine Int.mul_nonneg (Int.add_nonneg (Int.mul_nonneg (by decide) ?_) ?_) ?_
        · split <;> omega
        · exact (if01 _).1
        · exact (if01 _).1
      refine bs_set ok3 b2 hB3 (val_I (val_int (val_I0 (val_I0 (val_I (bs_get b2 hB3 rfl) val_c (.inr (by decide))) (val_I (val_var c2) val_c (.inr (by decide)))) val_c)) val_c (by decide)) rfl rfl hB3.2.1 hB3.2.2 fun H4 e4 ok4 hB4 => ?_
      exact hJ _ _ ⟨rfl, b2, rfl, ((e1.trans e2).trans e3).trans e4, ok4, _, _, _, _, hB4⟩
    · exact fun _ => ⟨rfl, b0, rfl, e1, ok1, _, _, _, _, hB1⟩

abbrev s_law_pick : Stmt := topS 35
theorem sc_law_pick : FnScope ["_law_bag_here", "_law_items"] ["_law_bag_here", "_law_items"] (defScope s_law_pick) := ⟨rfl, rfl, rfl, by decide +kernel, rfl, by decide +kernel, by decide +kernel⟩

theorem ok_law_pick (α : Type) [Py α] {f : Addr} {fd : FuncData} (F : Fun K "_law_pick" "_law_pick" s_law_pick f fd) (bt : Bt mg)
    (c_law_draw : Cal P w K mg base 1 "_law_draw" ["_law_bag_here", "_law_size"] (sp_law_draw K C)) :
    FnOk P w K mg base CX0 2 f fd ["_law_bag_here", "_law_items"] (spPick α K C) := by
  refine F.ok sc_law_pick (fun vs H Q E h => ?_) (fun cdv A outer s H vs Q E hr h => ?_)
  · obtain ⟨W, M, v, z, _, _, rfl, _⟩ := h; rfl
  · obtain ⟨W, M, v, xs, rfl, rfl, rfl, ok, r, ⟨h1, h2⟩, k⟩ := h
    have b0 : Bs W (L2.start ["_law_bag_here", "_law_items"] [.ref W.b, v]) 0 := rfl
    have S1 : Sl W M (L2.start ["_law_bag_here", "_law_items"] [.ref W.b, v]) H 1 xs := ⟨v, rfl, r⟩
    refine ⟨_, (pss_one (ps_ret (pe_ix ix_list (pv 1) (pe_call c_law_draw.ok (by exact hr.mono (by decide)) (by rfl) c_law_draw.gl c_law_draw.kp c_law_draw.b .nil pass0 (pa_cons (pv 0) (pa_cons (pe_callB cLenS (by rfl) bt.len_ (by decide +kernel) (pa_cons (pv 1) pa_nil)) pa_nil))) (fun _ _ => rfl)))), ?_⟩
    exact s_retR ok (evr_ixL (ev_var S1) (evr_b1 b0 (ev_lenL (ev_var S1)) ⟨by omega, by omega⟩) fun n hn => atI_mem hn.1 hn.2) fun v x H' px e r => k v x H' px e r

abbrev s_law_mixed : Stmt := topS 36
theorem sc_law_mixed : FnScope ["_law_bag_here", "_law_items", "_law_left", "_law_found", "_law_k"] ["_law_bag_here", "_law_items"] (defScope s_law_mixed) := ⟨rfl, rfl, rfl, by decide +kernel, rfl, by decide +kernel, by decide +kernel⟩

theorem ok_law_mixed (α : Type) [Py α] {f : Addr} {fd : FuncData} (F : Fun K "_law_mixed" "_law_mixed" s_law_mixed f fd) (bt : Bt mg)
    (c_law_draw : Cal P w K mg base 1 "_law_draw" ["_law_bag_here", "_law_size"] (sp_law_draw K C)) :
    FnOk P w K mg base CX0 2 f fd ["_law_bag_here", "_law_items"] (spMixed α K C) := by
  refine F.ok sc_law_mixed (fun vs H Q E h => ?_) (fun cdv A outer s H vs Q E hr h => ?_)
  · obtain ⟨W, M, v, z, _, _, rfl, _⟩ := h; rfl
  · obtain ⟨W, M, v, xs, rfl, rfl, rfl, ok, r, hl, k⟩ := h
    have b0 : Bs W (L2.start ["_law_bag_here", "_law_items", "_law_left", "_law_found", "_law_k"] [.ref W.b, v]) 0 := rfl
    have S1 : Sl W M (L2.start ["_law_bag_here", "_law_items", "_law_left", "_law_found", "_law_k"] [.ref W.b, v]) H 1 xs := ⟨v, rfl, r⟩
    refine ⟨_, (pss_cons (ps_set (i := 2) sc_law_mixed.nd rfl (.inl rfl) (pe_callTy cListOf (by rfl) bt.list_ (by decide +kernel) (pa_cons (pv 1) pa_nil)))
      (pss_cons (ps_set (i := 3) sc_law_mixed.nd rfl (.inl rfl) (pe_lst pa_nil))
      (pss_cons (ps_for PassesOwn.never rfl (pi_range1 (by rfl) bt.range_ (pa_cons (pe_callB cLenS (by rfl) bt.len_ (by decide +kernel) (pa_cons (pv 1) pa_nil)) pa_nil)) (pg_name (i := 4) sc_law_mixed.nd rfl (Or.inl rfl))
      (pss_one (ps_expr (pe_bm PySem.F.plainAttrs_list PySem.F.slot_list_append PySem.F.type_list_append mt_append (pv 3) (pa_cons (pe_bm PySem.F.plainAttrs_list PySem.F.slot_list_pop PySem.F.type_list_pop mt_popAt (pv 2) (pa_cons (pe_call c_law_draw.ok (by exact hr.mono (by decide)) (by rfl) c_law_draw.gl c_law_draw.kp c_law_draw.b .nil pass0 (pa_cons (pv 0) (pa_cons (pe_callB cLenS (by rfl) bt.len_ (by decide +kernel) (pa_cons (pv 2) pa_nil)) pa_nil))) pa_nil)) pa_nil)))))
      (pss_one (ps_ret (pv 3)))))), ?_⟩
    refine s_list ok (ev_var S1) (by show 2 < 5; decide) fun p H1 hp e1 l1 ok1 A1 => ?_
    refine s_new2 (α := α) ok1 (by show 3 < 5; decide) fun q H2 hq e2 l2 ok2 A2 => ?_
    have hpq : q ≠ p := fun e => by rw [e] at hq; exact ok1.laid p (by simp) hq
    have hq0 : H q = none := e1.free hq
    have pm : p ∉ M := ok.new_M hp
    have qm : q ∉ M := ok.new_M hq0
    have A1' : Acc W (q :: p :: M) ((((L2.start ["_law_bag_here", "_law_items", "_law_left", "_law_found", "_law_k"] [.ref W.b, v]).set 2 (some (.ref p)))).set 3 (some (.ref q))) H2 2 p xs := by
      refine (A1.setσ (l := 3)).le ?_ (by simp) l2
      obtain ⟨vs, hh, _⟩ := A1.it
      rw [e2.keep p _ A1.nb (by simp) hh, hh]
    have sub : ∀ a ∈ M, a ∈ q :: p :: M := fun a h => by simp [h]
    have S1' : Sl W (q :: p :: M) _ H2 1 xs := ((S1.le (l1.trans l2)).set (k := 2) (v := .ref p) Ex.refl).set (k := 3) (v := .ref q) Ex.refl
    refine for_w ok2 (ei_range (ev_lenL (ev_var S1')) (by omega) (by omega)) (fun i σ' H' => Ex W [] H H' ∧ Bs W σ' 0 ∧ ∃ ys zs, Acc W (q :: p :: M) σ' H' 3 q ys ∧ Acc W (q :: p :: M) σ' H' 2 p zs ∧ (ys ++ zs).Perm xs ∧ ys.length = i)
      (fun H' e => ⟨(e1.trans e2).trans e, b0, [], xs, A2.up e, A1'.up e, List.Perm.refl _, rfl⟩) ?_ ?_
    · rintro i x v σ' H' hi ⟨e0, b, ys, zs, AF, AL, pm', hy⟩ ok' H'' e'' r N hN
      have ok'' := ok'.ex e''
      have AF' := (AF.up e'').setσ (l := 4) (v := v)
      have AL' := (AL.up e'').setσ (l := 4) (v := v)
      have hin : i < xs.length := by
        have := (List.getElem?_eq_some_iff.mp hi).1
        rw [rng_len] at this
        omega
      have hz : ys.length + zs.length = xs.length := by rw [← pm'.length_eq, List.length_append]
      refine s_appPop ok'' AF' AL' hpq (by omega) (by omega) ((evr_b1 (b.set (k := 4)) (ev_lenL (ev_var (AL'.out sub pm))) ⟨by omega, by omega⟩).sc sub) fun j y H3 hj e3 e3' ok3 AF3 AL3 => ?_
      exact hN _ _ ⟨e3' H M (e0.trans e'') ok hq0 hp, b.set, _, _, AF3, AL3, perm_pop pm' hj, by rw [List.length_append, hy]; rfl⟩ e3
    · rintro σ' H' ⟨e0, b, ys, zs, AF, AL, pm', hy⟩ ok'
      rw [rng_len] at hy
      have hz : ys.length + zs.length = xs.length := by rw [← pm'.length_eq, List.length_append]
      have hz0 : zs = [] := List.eq_nil_of_length_eq_zero (by omega)
      subst hz0
      rw [List.append_nil] at pm'
      exact s_ret (ok'.sub sub) (ev_var (AF.out sub qm)) fun v H3 e3 r => k v ys H3 pm' (e0.trans e3) r

abbrev s_law_names : Stmt := topS 37
theorem sc_law_names : FnScope ["_law_bag_here", "_law_count", "_law_words", "_law_letters", "_law_size", "_law_stem", "_law_where", "_law_shift", "_law_longer", "_law_names_here", "_law_k", "_law_name", "_law_spot", "_law_word"] ["_law_bag_here", "_law_count", "_law_words"] (defScope s_law_names) := ⟨rfl, rfl, rfl, by decide +kernel, rfl, by decide +kernel, by decide +kernel⟩

theorem ok_law_names {f : Addr} {fd : FuncData} (F : Fun K "_law_names" "_law_names" s_law_names f fd) (bt : Bt mg)
    (c_law_draw : Cal P w K mg base 1 "_law_draw" ["_law_bag_here", "_law_size"] (sp_law_draw K C)) :
    FnOk P w K mg base CX0 2 f fd ["_law_bag_here", "_law_count", "_law_words"] (sp_law_names K C) := by
  refine F.ok sc_law_names (fun vs H Q E h => ?_) (fun cdv A outer s H vs Q E hr h => ?_)
  · obtain ⟨W, M, v, u, z, d, _, _, rfl, _⟩ := h; rfl
  · obtain ⟨W, M, v, u, count, words, rfl, rfl, rfl, ok, r, rw_, ⟨hc1, hc2, hw1, hw2, hw3⟩, k⟩ := h
    cases (show v = .int count from r)
    have lets : (tl lettersS).length = 26 := by rw [letters_tl]; rfl
    have letl : lettersS.length = 26 := by rw [len_tl, lets]
    have key : ∀ n : Int, 0 ≤ n ∧ n < 26 → ∃ c, atI lettersS.cps.toList n = some c ∧ ∃ c', (⟨#[c]⟩ : Str) = ⟨#[c']⟩ ∧ isL c' := fun n hn => ⟨_, letter_at hn.1 hn.2, _, rfl, by unfold isL; omega⟩
    refine ⟨_, (pss_cons (ps_set (i := 3) sc_law_names.nd rfl (.inr rfl) pe_str)
      (pss_cons (ps_set (i := 4) sc_law_names.nd rfl (.inl rfl) (pe_ix ix_list (pe_lst (pa_cons pe_int (pa_cons pe_int (pa_cons pe_int (pa_cons pe_int (pa_cons pe_int pa_nil)))))) (pe_call c_law_draw.ok (by exact hr.mono (by decide)) (by rfl) c_law_draw.gl c_law_draw.kp c_law_draw.b .nil pass0 (pa_cons (pv 0) (pa_cons pe_int pa_nil))) (fun _ _ => rfl)))
      (pss_cons (ps_set (i := 5) sc_law_names.nd rfl (.inl rfl) (peJoin pe_str (pe_lc (own := [("_law_k", 10)]) (g := gName 10) rfl sc_law_names.nd (pi_range1 (by rfl) bt.range_ (pa_cons (pv 4) pa_nil)) (blkOk_by (own := [("_law_k", 10)]) (N := ["_law_bag_here", "_law_count", "_law_words", "_law_letters", "_law_size", "_law_stem", "_law_where", "_law_shift", "_law_longer", "_law_names_here", "_law_k", "_law_name", "_law_spot", "_law_word"]) (sc := defScope s_law_names) (by decide +kernel)) (fun _ _ _ _ _ => (pg_name (i := 10) sc_law_names.nd rfl (Or.inl rfl))) (fun _ _ _ _ _ => pts_nil) (fun _ _ _ _ _ => (PE.to (pe_ix ix_str (pv 3) (pe_call c_law_draw.ok (by exact hr.mono (by decide)) (by rfl) c_law_draw.gl c_law_draw.kp c_law_draw.b .nil pass0 (pa_cons (pv 0) (pa_cons pe_int pa_nil))) (fun _ _ => rfl)) (by dsimp only [Cx.blk] <;> rfl))))))
      (pss_cons (ps_set (i := 6) sc_law_names.nd rfl (.inl rfl) (pe_call c_law_draw.ok (by exact hr.mono (by decide)) (by rfl) c_law_draw.gl c_law_draw.kp c_law_draw.b .nil pass0 (pa_cons (pv 0) (pa_cons (pe_op op_add (pv 4) pe_int) pa_nil))))
      (pss_cons (ps_set (i := 7) sc_law_names.nd rfl (.inl rfl) (pe_call c_law_draw.ok (by exact hr.mono (by decide)) (by rfl) c_law_draw.gl c_law_draw.kp c_law_draw.b .nil pass0 (pa_cons (pv 0) (pa_cons pe_int pa_nil))))
      (pss_cons (ps_set (i := 8) sc_law_names.nd rfl (.inl rfl) (pe_call c_law_draw.ok (by exact hr.mono (by decide)) (by rfl) c_law_draw.gl c_law_draw.kp c_law_draw.b .nil pass0 (pa_cons (pv 0) (pa_cons pe_int pa_nil))))
      (pss_cons (ps_set (i := 9) sc_law_names.nd rfl (.inl rfl) (pe_lst pa_nil))
      (pss_cons (ps_for PassesOwn.never rfl (pi_range1 (by rfl) bt.range_ (pa_cons (pv 1) pa_nil)) (pg_name (i := 10) sc_law_names.nd rfl (Or.inl rfl))
      (pss_cons (ps_set (i := 11) sc_law_names.nd rfl (.inl rfl) (pe_op op_add_str (pe_op op_add_str (pe_slice sl_str (pv 5) po_none (po_some (pv 6))) (pe_ix ix_str (pv 3) (pe_op op_mod (pe_callTy cInt (by rfl) bt.int_ (by decide +kernel) (pa_cons (pe_op op_add (pv 7) (pe_op op_mul pe_int (pv 10))) pa_nil)) pe_int) (fun _ _ => rfl))) (pe_slice sl_str (pv 5) (po_some (pv 6)) po_none)))
      (pss_one (ps_expr (pe_bm PySem.F.plainAttrs_list PySem.F.slot_list_append PySem.F.type_list_append mt_append (pv 9) (pa_cons (pe_op op_add_str (pv 11) (pe_op op_mulS (pe_ix ix_str (pv 3) (pv 7) (fun _ _ => rfl)) (pe_callTy cInt (by rfl) bt.int_ (by decide +kernel) (pa_cons (pe_cmpR op_eq (pe_op op_mod (pe_callTy cInt (by rfl) bt.int_ (by decide +kernel) (pa_cons (pv 10) pa_nil)) pe_int) (pv 8) (nomark _)) pa_nil)))) pa_nil))))))
      (pss_cons (ps_if (PW.pt (pw_and (pt_cmpR op_gt (pv 1) pe_int (nomark _)) (pw_and (pt_cmpR op_lt (pv 4) pe_int (nomark _)) (pw_and1 (pt_cmpR op_eq (pv 8) pe_int (nomark _)))))) (pss_one (ps_asg (pe_op op_add_str (pe_ix ix_list (pv 9) pe_int (fun _ _ => rfl)) (pe_ix ix_str (pv 3) (pe_call c_law_draw.ok (by exact hr.mono (by decide)) (by rfl) c_law_draw.gl c_law_draw.kp c_law_draw.b .nil pass0 (pa_cons (pv 0) (pa_cons pe_int pa_nil))) (fun _ _ => rfl))) (pg_sub (pv 9) pe_int set_list))) pss_nil)
      (pss_cons (ps_set (i := 12) sc_law_names.nd rfl (.inl rfl) (pe_call c_law_draw.ok (by exact hr.mono (by decide)) (by rfl) c_law_draw.gl c_law_draw.kp c_law_draw.b .nil pass0 (pa_cons (pv 0) (pa_cons (pe_op op_mul pe_int (pv 1)) pa_nil))))
      (pss_cons (ps_set (i := 13) sc_law_names.nd rfl (.inl rfl) (pe_ix ix_list (pv 2) (pe_call c_law_draw.ok (by exact hr.mono (by decide)) (by rfl) c_law_draw.gl c_law_draw.kp c_law_draw.b .nil pass0 (pa_cons (pv 0) (pa_cons (pe_callB cLenS (by rfl) bt.len_ (by decide +kernel) (pa_cons (pv 2) pa_nil)) pa_nil))) (fun _ _ => rfl)))
      (pss_cons (ps_if (PW.pt (pw_and (pt_cmpR op_lt (pv 12) (pv 1) (nomark _)) (pw_and1 (pt_cmpR (op_notInE (by exact u65 hr)) (pv 13) (pv 9) (by rfl))))) (pss_one (ps_asg (pv 13) (pg_sub (pv 9) (pv 12) set_list))) pss_nil)
      (pss_one (ps_ret (pv 9))))))))))))))), ?_⟩
    have b0 : Bs W [some (.ref W.b), some (.int count), some u, none, none, none, none, none, none, none, none, none, none, none] 0 := rfl
    have S2 : Sl W M [some (.ref W.b), some (.int count), some u, none, none, none, none, none, none, none, none, none, none, none] H 2 words := ⟨u, rfl, rw_⟩
    refine s_set ok (ev_str (s := lettersS)) fun v3 H1 e1 ok1 r3 => ?_
    cases (show v3 = .str lettersS from r3)
    refine s_setR ok1 (P := fun n : Int => 0 ≤ n ∧ n ≤ 6) (evr_ixL (ev_lst (xs := [0, 1, 2, 3, 6]) (ea_cons ev_int (ea_cons ev_int (ea_cons ev_int (ea_cons ev_int (ea_cons ev_int ea_nil))))) (by decide)) (evr_b1 bsr ev_int ⟨by decide, by decide⟩) fun n hn => ?_) fun v4 size H2 hs e2 ok2 r4 => ?_
    · obtain ⟨x, hx, hm⟩ := atI_mem (xs := [0, 1, 2, 3, (6 : Int)]) hn.1 hn.2
      refine ⟨x, hx, ?_⟩
      simp only [List.mem_cons, List.not_mem_nil, or_false] at hm
      omega
    cases (show v4 = .int size from r4)
    refine s_setR ok2 (P := fun z : Str => ((tl z).length : Int) = size ∧ ∀ c ∈ tl z, isL c) (evr_join ev_str (evr_lc (R := fun _ (z : Str) => ∃ c, z = ⟨#[c]⟩ ∧ isL c) (ei_range (ev_vi) (by omega) (by omega)) (by rw [rng_len]; omega) (by decide)
      fun i x v M' H' hi l r => evr_ixS (ev_vs) (evr_b1 bsr ev_int ⟨by decide, by decide⟩) (by rw [letl]; decide) key) fun parts hp => ?_) fun v5 stem H3 hst e3 ok3 r5 => ?_
    · have hlen : parts.length = size.toNat := by rw [← Pd.length hp, rng_len]
      have hall : ∀ p ∈ parts, ∃ c, p = ⟨#[c]⟩ ∧ isL c := fun p hp' => by
        obtain ⟨j, hj⟩ := List.mem_iff_getElem?.mp hp'
        obtain ⟨x, _, h⟩ := Pd.get hp hj
        exact h
      obtain ⟨q1, q2⟩ := stem_tl hall
      refine ⟨Nat.le_trans (join_le (n := 1) fun p hp' => ?_) ?_, by rw [q1, hlen]; omega, q2⟩
      · obtain ⟨c, rfl, _⟩ := hall p hp'; exact Nat.le_refl _
      · rw [hlen]
        exact Nat.le_trans (Nat.mul_le_mul_right _ (show size.toNat ≤ 6 by omega)) (by decide)
    cases (show v5 = .str stem from r5)
    refine s_setR ok3 (evr_b1 bsr (ev_I0 (ev_vi) ev_int) ⟨by omega, by omega⟩) fun v6 wh H4 hwh e4 ok4 r6 => ?_
    cases (show v6 = .int wh from r6)
    refine s_setR ok4 (evr_b1 bsr ev_int ⟨by decide, by decide⟩) fun v7 sh H5 hsh e5 ok5 r7 => ?_
    cases (show v7 = .int sh from r7)
    refine s_setR ok5 (evr_b1 bsr ev_int ⟨by decide, by decide⟩) fun v8 lg H6 hlg e6 ok6 r8 => ?_
    cases (show v8 = .int lg from r8)
    have nok : NmOk stem size wh sh lg := ⟨hst.1, hst.2, hs.2, hwh.1, by omega, hsh.1, hsh.2⟩
    have e06 : Ex W [] H H6 := ((((e1.trans e2).trans e3).trans e4).trans e5).trans e6
    refine s_new2 (α := Str) ok6 (by show 9 < 14; decide) fun p H7 hp e7 l7 ok7 A7 => ?_
    have pm : p ∉ M := ok6.new_M hp
    have hp0 : H p = none := e06.free hp
    have sub : ∀ a ∈ M, a ∈ p :: M := fun a h => by simp [h]
    have hst6 : stem.length ≤ 6 := by rw [len_tl]; have := hst.1; omega
    have S2N : ∀ H', Ex W [] H H' → Rep W M H' u words := fun H' e => rw_.up e
    refine for_w ok7 (ei_range ev_vi (by omega) (by omega)) (fun i σ' H' => Ex W [] H H' ∧ ∃ v10 v11, σ' = [some (.ref W.b), some (.int count), some u, some (.str lettersS), some (.int size), some (.str stem), some (.int wh), some (.int sh), some (.int lg), some (.ref p), v10, v11, none, none] ∧ Acc W (p :: M) σ' H' 9 p (nms stem wh sh lg i))
      (fun H' e => ⟨(e06.trans e7).trans e, none, none, rfl, A7.up e⟩) ?_ ?_
    · rintro i x v σ' H' hi ⟨e0, v10, v11, rfl, A⟩ ok' H'' e'' r N hN
      have ok'' := ok'.ex e''
      have hi' := hi
      have hin : i < count.toNat := by have := (List.getElem?_eq_some_iff.mp hi).1; rwa [rng_len] at this
      rw [rng_at hin] at hi'
      cases hi'
      cases (show v = .int (i : Int) from r)
      have hmod : 0 ≤ (sh + 7 * (i : Int)) % 26 ∧ (sh + 7 * (i : Int)) % 26 < 26 := by omega
      have c1 : (cutS stem none (some wh)).length ≤ 6 := Nat.le_trans cut_len hst6
      have c2 : (cutS stem (some wh) none).length ≤ 6 := Nat.le_trans cut_len hst6
      refine s_set ok'' (ev_addS (ev_addS (ev_slS ev_vs eo_none (eo_some ev_vi) (by omega)) (ev_ixS (n := (sh + 7 * (i : Int)) % 26) ev_vs (ev_I (ev_intI (ev_I0 ev_vi (ev_I ev_int ev_vi (.inl (by decide))))) ev_int (by decide)) (by rw [letl]; decide) (letter_at hmod.1 hmod.2)) ?_) (ev_slS ev_vs (eo_some ev_vi) eo_none (by omega)) ?_) fun v11' H3 e3 ok3 r11 => ?_
      · show _ + 1 ≤ _; omega
      · rw [len_tl, tl_append, List.length_append, ← len_tl]; show _ + 1 + _ ≤ _; omega
      cases (show v11' = .str _ from r11)
      have A3 := ((A.up (e''.trans e3)).setσ (l := 10) (v := .int (i : Int))).setσ (l := 11) (v := .str (cutS stem none (some wh) ++ (⟨#[97 + ((sh + 7 * (i : Int)) % 26).toNat]⟩ : Str) ++ cutS stem (some wh) none))
      refine s_app (N := M) ok3 A3 (by unfold nms; rw [List.length_map, List.length_range]; omega) ((ev_addS (ev_vs (n := cutS stem none (some wh) ++ (⟨#[97 + ((sh + 7 * (i : Int)) % 26).toNat]⟩ : Str) ++ cutS stem (some wh) none)) (ev_mulS (b := decide ((i : Int) % 3 = lg)) (ev_ixS ev_vs ev_vi (by rw [letl]; decide) (letter_at hsh.1 hsh.2)) (ev_intB (ev_eq (ev_I (ev_intI ev_vi) ev_int (by decide)) ev_vi))) ?_).is (x' := nm stem wh sh lg (i : Int)) ?_) fun H4 e4 e4' ok4 A4 => ?_
      · rw [len_tl, tl_append, tl_append, List.length_append, List.length_append, ← len_tl, ← len_tl, ← len_tl]
        have : (if decide ((i : Int) % 3 = lg) = true then (⟨#[97 + sh.toNat]⟩ : Str) else Str.empty).length ≤ 1 := by split; exact Nat.le_refl 1; exact Nat.zero_le 1
        show _ + 1 + _ + _ ≤ _
        omega
      · unfold nm
        by_cases h3 : (i : Int) % 3 = lg
        · rw [if_pos h3, if_pos (decide_eq_true h3)]
        · rw [if_neg h3, if_neg (by rw [decide_eq_false h3]; exact Bool.false_ne_true)]
      · rw [← nms_succ] at A4
        exact hN _ _ ⟨e4' H ((e0.trans e'').trans e3) ok hp0, _, _, rfl, A4⟩ (e3.up.trans e4)
    rintro σ' H' ⟨e0, v10, v11, rfl, A⟩ ok'
    rw [rng_len] at A
    have hcn : ((count.toNat : Nat) : Int) = count := by omega
    have N0 := nok.all (n := count.toNat) (by omega) words
    rw [hcn] at N0
    have okM := ok'.sub sub
    have hl0 : ∀ L, NamesOk count words L → ∀ z ∈ L, z.length ≤ 1000 := fun L hL z hz => by
      rcases hL.2.2 z hz with h | h
      · have := (isName_is h).2.1; rw [len_tl]; omega
      · exact hw3 z h
    refine s_ifc (J := fun σ' H' => Ex W [] H H' ∧ Ok W (p :: M) H' ∧ ∃ L, σ' = [some (.ref W.b), some (.int count), some u, some (.str lettersS), some (.int size), some (.str stem), some (.int wh), some (.int sh), some (.int lg), some (.ref p), v10, v11, none, none] ∧ Acc W (p :: M) σ' H' 9 p L ∧ NamesOk count words L)
      okM (et_and (et_t (ev_B0 ev_vi ev_int)) fun _ => et_and (et_t (ev_B0 ev_vi ev_int)) fun _ => et_t (ev_eq ev_vi ev_int)) ?_ ?_ ?_
    · rintro σ' H8 ⟨e8, ok8, L, rfl, A8, hL⟩
      have ok8M := ok8.sub sub
      refine s_setR ok8M (evr_b1 bsr (ev_I ev_int ev_vi (.inl (by decide))) ⟨by omega, by omega⟩) fun v12 spot H9 hsp e9 ok9 r12 => ?_
      cases (show v12 = .int spot from r12)
      refine s_setR ok9 (P := fun z => z ∈ words) (evr_ixL (ev_var ⟨u, rfl, rw_.up (e8.trans e9)⟩) (evr_b1 bsr (ev_lenL (ev_var ⟨u, rfl, rw_.up (e8.trans e9)⟩)) ⟨by omega, by omega⟩) fun n hn => atI_mem hn.1 hn.2) fun v13 word H10 hwd e10 ok10 r13 => ?_
      cases (show v13 = .str word from r13)
      have A10 := ((A8.up (e9.trans e10)).setσ (l := 12) (v := .int spot)).setσ (l := 13) (v := .str word)
      have ok10N := (ok8.ex e9).ex e10
      refine s_ifc (J := fun σ' H' => Ex W [] H H' ∧ Ok W (p :: M) H' ∧ ∃ L, Acc W (p :: M) σ' H' 9 p L ∧ NamesOk count words L) ok10 (et_and (et_t (ev_B0 ev_vi ev_vi)) fun _ => et_t (ev_notIn (ev_vs (n := word)) (ev_var (A10.out sub pm)))) ?_ ?_ ?_
      · rintro σ' H11 ⟨e11, ok11, L', A11, hL'⟩
        exact s_ret (ok11.sub sub) (ev_var (A11.out sub pm)) fun v H12 e12 r => k v L' H12 hL' (e11.trans e12) r
      · intro hJ hb H11 e11 ok11
        simp only [Bool.and_eq_true, decide_eq_true_eq, Bool.not_eq_true', decide_eq_false_iff_not] at hb
        refine s_setAt (N := M) (ok10N.ex e11) (A10.up e11) (ev_vs (n := word)) (ev_vi (n := spot)) hsp.1 (by rw [hL.1]; exact hb.1) fun H12 e12 e12' ok12 A12 => ?_
        exact hJ _ _ ⟨e12' H (((e8.trans e9).trans e10).trans e11) ok hp0, ok12, _, A12, hL.word hwd hb.2⟩
      · intro hb H11 e11 ok11
        exact ⟨((e8.trans e9).trans e10).trans e11, ok10N.ex e11, L, A10.up e11, hL⟩
    · intro hJ hb H8 e8 ok8
      simp only [Bool.and_eq_true, decide_eq_true_eq] at hb
      obtain ⟨hb1, hb2, hb3⟩ := hb
      have A8 := A.up e8
      refine s_setAtR (P := fun z => ∃ c, z = nm stem wh sh lg 0 ++ (⟨#[c]⟩ : Str) ∧ isL c) (ok'.ex e8) A8 (((evr_addS (z := nm stem wh sh lg 0) (P := fun z => ∃ c, z = ⟨#[c]⟩ ∧ isL c) (ev_ixL (ev_var (A8.out sub pm)) ev_int ?_) (evr_ixS ev_vs (evr_b1 bsr ev_int ⟨by decide, by decide⟩) (by rw [letl]; decide) key) ?_).imp fun z hz => ?_).sc sub) ev_int (by decide) (by rw [N0.1]; omega) fun z H9 hz e9 e9' ok9 A9 => ?_
      · rw [atI_getD (xs := nms stem wh sh lg count.toNat) Str.empty (by decide) (by rw [N0.1]; omega)]
        have : nms stem wh sh lg count.toNat = nm stem wh sh lg 0 :: (nms stem wh sh lg count.toNat).drop 1 := by
          unfold nms
          obtain ⟨n, hn⟩ : ∃ n, count.toNat = n + 1 := ⟨count.toNat - 1, by omega⟩
          rw [hn, List.range_succ_eq_map]; rfl
        rw [this]; rfl
      · rintro w ⟨c, rfl, _⟩
        have := (isName_is (nok.name (k := 0))).2.1
        rw [len_tl]
        show _ + 1 ≤ _
        omega
      · obtain ⟨w, ⟨c, rfl, hc⟩, e⟩ := hz
        exact ⟨c, e, hc⟩
      · obtain ⟨c, rfl, hc⟩ := hz
        have := nok.second (n := count.toNat) (by omega) hb2 hb3 words hc
        rw [hcn] at this
        exact hJ _ _ ⟨e9' H M (e0.trans e8) ok hp0, ok9, _, rfl, A9, this⟩
    · intro hb H8 e8 ok8
      exact ⟨e0.trans e8, ok'.ex e8, _, rfl, A.up e8, N0⟩

abbrev s_law_product : Stmt := topS 38
theorem sc_law_product : FnScope ["_law_plain", "_law_size", "_law_name", "_law_worths"] ["_law_plain"] (defScope s_law_product) := ⟨rfl, rfl, rfl, by decide +kernel, rfl, by decide +kernel, by decide +kernel⟩

theorem ok_law_product {f : Addr} {fd : FuncData} (F : Fun K "_law_product" "_law_product" s_law_product f fd) (bt : Bt mg) :
    FnOk P w K mg base CX0 1 f fd ["_law_plain"] (sp_law_product K C) := by
  refine F.ok sc_law_product (fun vs H Q E h => ?_) (fun cdv A outer s H vs Q E hr h => ?_)
  · obtain ⟨W, M, v, z, _, _, rfl, _⟩ := h; rfl
  · obtain ⟨W, M, v, cs, rfl, rfl, rfl, ok, r, hz, k⟩ := h
    have S0 : Sl W M (L2.start ["_law_plain", "_law_size", "_law_name", "_law_worths"] [v]) H 0 cs := ⟨v, rfl, r⟩
    refine ⟨_, (pss_cons (ps_set (i := 1) sc_law_product.nd rfl (.inl rfl) pe_int)
      (pss_cons (ps_for PassesOwn.never rfl (pi_list (pv 0)) (pg_tup rfl (pgs_cons (pg_name (i := 2) sc_law_product.nd rfl (Or.inl rfl)) (pgs_cons (pg_name (i := 3) sc_law_product.nd rfl (Or.inl rfl)) pgs_nil)))
      (pss_one (ps_set (i := 1) sc_law_product.nd rfl (.inl rfl) (pe_op op_mul (pv 1) (pe_callB cLenS (by rfl) bt.len_ (by decide +kernel) (pa_cons (pv 3) pa_nil))))))
      (pss_one (ps_ret (pv 1))))), ?_⟩
    refine s_set ok (ev_int (n := 1)) fun v1 H1 e1 ok1 r1 => ?_
    cases (show v1 = .int 1 from r1)
    refine for_w ok1 (ei_list (ev_var (S0.set e1))) (fun i σ' H' => Ex W [] H H' ∧ σ'.length = 4 ∧ σ'[1]? = some (some (.int (prod (cs.take i))))) (fun H' e => ⟨e1.trans e, rfl, rfl⟩) ?_ ?_
    · rintro i c v σ' H' hi ⟨e0, hσ, h1⟩ ok' H'' e'' r N hN
      refine gPair_rd r fun v1 v2 r1 r2 => ?_
      have S3 : Sl W M ((σ'.set 2 (some v1)).set 3 (some v2)) H'' 3 c.2 := Sl.here r2 (by rw [List.length_set, hσ]; decide)
      have h1' : ((σ'.set 2 (some v1)).set 3 (some v2))[1]? = some (some (.int (prod (cs.take i)))) := by rw [List.getElem?_set_ne (by decide), List.getElem?_set_ne (by decide)]; exact h1
      have hc := hz c (List.mem_of_getElem? hi)
      refine s_set (ok'.ex e'') (ev_I (ev_vi h1') (ev_lenL (ev_var S3)) (.inr ⟨by omega, by omega⟩)) fun v3 H3 e3 ok3 r3 => ?_
      cases (show v3 = .int _ from r3)
      refine hN _ _ ⟨e0.trans (e''.trans e3), by rw [List.length_set, List.length_set, List.length_set, hσ], ?_⟩ e3.up
      rw [List.getElem?_set_self (by rw [List.length_set, List.length_set, hσ]; decide)]
      unfold prod
      rw [List.take_add_one, hi, List.map_append, List.foldl_append]; rfl
    · rintro σ' H' ⟨e0, hσ, h1⟩ ok'
      rw [List.take_length] at h1
      exact s_ret ok' (ev_vi h1) fun v H3 e3 r => k v H3 (e0.trans e3) r

abbrev s_law_menu : Stmt := topS 39
theorem sc_law_menu : FnScope ["_law_bag_here", "_law_most", "_law_shapes", "_law_shape", "_law_names_here", "_law_words", "_law_plain", "_law_k", "_law_begin", "_law_word", "_law_j", "_law_name", "_law_worths"] ["_law_bag_here", "_law_most"] (defScope s_law_menu) := ⟨rfl, rfl, rfl, by decide +kernel, rfl, by decide +kernel, by decide +kernel⟩

theorem ok_law_menu {f : Addr} {fd : FuncData} (F : Fun K "_law_menu" "_law_menu" s_law_menu f fd) (bt : Bt mg)
    (c_law_pick_ListInt : Cal P w K mg base 2 "_law_pick" ["_law_bag_here", "_law_items"] (spPick (List Int) K C))
    (c_law_names : Cal P w K mg base 2 "_law_names" ["_law_bag_here", "_law_count", "_law_words"] (sp_law_names K C))
    (c_law_draw : Cal P w K mg base 1 "_law_draw" ["_law_bag_here", "_law_size"] (sp_law_draw K C))
    (c_law_mixed_Str : Cal P w K mg base 2 "_law_mixed" ["_law_bag_here", "_law_items"] (spMixed Str K C))
    (c_law_product : Cal P w K mg base 1 "_law_product" ["_law_plain"] (sp_law_product K C)) :
    FnOk P w K mg base CX0 3 f fd ["_law_bag_here", "_law_most"] (sp_law_menu K C) := by
  refine F.ok sc_law_menu (fun vs H Q E h => ?_) (fun cdv A outer s H vs Q E hr h => ?_)
  · obtain ⟨W, M, v, z, _, _, rfl, _⟩ := h; rfl
  · obtain ⟨W, M, v, most, rfl, rfl, rfl, ok, r, hm, k⟩ := h
    cases (show v = .int most from r)
    have w4 : ∀ z ∈ (["all", "not", "and", "or"] : List Str), isName z = true := by decide +kernel
    have w3 : ∀ z ∈ (["0", "all", "3a"] : List Str), z.length ≤ 1000 := by decide +kernel
    refine ⟨_, (pss_cons (ps_set (i := 2) sc_law_menu.nd rfl (.inl rfl) (pe_lst (pa_cons (pe_lst (pa_cons pe_int pa_nil)) (pa_cons (pe_lst (pa_cons pe_int pa_nil)) (pa_cons (pe_lst (pa_cons pe_int pa_nil)) (pa_cons (pe_lst (pa_cons pe_int pa_nil)) (pa_cons (pe_lst (pa_cons pe_int (pa_cons pe_int pa_nil))) (pa_cons (pe_lst (pa_cons pe_int (pa_cons pe_int pa_nil))) (pa_cons (pe_lst (pa_cons pe_int (pa_cons pe_int pa_nil))) (pa_cons (pe_lst (pa_cons pe_int (pa_cons pe_int (pa_cons pe_int pa_nil)))) (pa_cons (pe_lst (pa_cons pe_int (pa_cons pe_int pa_nil))) (pa_cons (pe_lst (pa_cons pe_int (pa_cons pe_int (pa_cons pe_int pa_nil)))) (pa_cons (pe_lst (pa_cons pe_int (pa_cons pe_int (pa_cons pe_int pa_nil)))) (pa_cons (pe_lst (pa_cons pe_int pa_nil)) (pa_cons (pe_lst (pa_cons pe_int (pa_cons pe_int pa_nil))) (pa_cons (pe_lst (pa_cons pe_int (pa_cons pe_int pa_nil))) pa_nil))))))))))))))))
      (pss_cons (ps_set (i := 3) sc_law_menu.nd rfl (.inl rfl) (pe_call c_law_pick_ListInt.ok (by exact hr.mono (by decide)) (by rfl) c_law_pick_ListInt.gl c_law_pick_ListInt.kp c_law_pick_ListInt.b .nil pass0 (pa_cons (pv 0) (pa_cons (pv 2) pa_nil))))
      (pss_cons (ps_set (i := 4) sc_law_menu.nd rfl (.inl rfl) (pe_call c_law_names.ok (by exact hr.mono (by decide)) (by rfl) c_law_names.gl c_law_names.kp c_law_names.b .nil pass0 (pa_cons (pv 0) (pa_cons (pe_callB cLenS (by rfl) bt.len_ (by decide +kernel) (pa_cons (pv 3) pa_nil)) (pa_cons (pe_lst (pa_cons pe_str (pa_cons pe_str (pa_cons pe_str (pa_cons pe_str pa_nil))))) pa_nil)))))
      (pss_cons (ps_set (i := 5) sc_law_menu.nd rfl (.inr rfl) (pe_call c_law_names.ok (by exact hr.mono (by decide)) (by rfl) c_law_names.gl c_law_names.kp c_law_names.b .nil pass0 (pa_cons (pv 0) (pa_cons pe_int (pa_cons (pe_lst (pa_cons pe_str (pa_cons pe_str (pa_cons pe_str pa_nil)))) pa_nil)))))
      (pss_cons (ps_set (i := 5) sc_law_menu.nd rfl (.inr rfl) (pe_lc (own := [("_law_k", 7), ("_law_word", 9)]) (g := gPair W.K 7 9) rfl sc_law_menu.nd (pi_enum (by rfl) bt.enumerate_ (pa_cons (pv 5) pa_nil)) (blkOk_by (own := [("_law_k", 7), ("_law_word", 9)]) (N := ["_law_bag_here", "_law_most", "_law_shapes", "_law_shape", "_law_names_here", "_law_words", "_law_plain", "_law_k", "_law_begin", "_law_word", "_law_j", "_law_name", "_law_worths"]) (sc := defScope s_law_menu) (by decide +kernel)) (fun _ _ _ _ _ => (pg_tup rfl (pgs_cons (pg_name (i := 7) sc_law_menu.nd rfl (Or.inl rfl)) (pgs_cons (pg_name (i := 9) sc_law_menu.nd rfl (Or.inl rfl)) pgs_nil)))) (fun _ _ _ _ _ => pts_nil) (fun _ _ _ _ _ => (PE.to (pe_ix ix_list (pe_lst (pa_cons (pv 9) (pa_cons (pe_callTy cStrI (by rfl) bt.str_ (by decide +kernel) (pa_cons (pv 7) pa_nil)) pa_nil))) (pe_callTy cInt (by rfl) bt.int_ (by decide +kernel) (pa_cons (pe_cmpR op_eq (pe_op op_mod (pe_callTy cInt (by rfl) bt.int_ (by decide +kernel) (pa_cons (pv 7) pa_nil)) pe_int) pe_int (nomark _)) pa_nil)) (fun _ _ => rfl)) (by dsimp only [Cx.blk] <;> rfl)))))
      (pss_cons (ps_set (i := 6) sc_law_menu.nd rfl (.inl rfl) (pe_lst pa_nil))
      (pss_cons (ps_for PassesOwn.never rfl (pi_range1 (by rfl) bt.range_ (pa_cons (pe_callB cLenS (by rfl) bt.len_ (by decide +kernel) (pa_cons (pv 3) pa_nil)) pa_nil)) (pg_name (i := 7) sc_law_menu.nd rfl (Or.inl rfl))
      (pss_cons (ps_set (i := 8) sc_law_menu.nd rfl (.inr rfl) (pe_call c_law_draw.ok (by exact hr.mono (by decide)) (by rfl) c_law_draw.gl c_law_draw.kp c_law_draw.b .nil pass0 (pa_cons (pv 0) (pa_cons pe_int pa_nil))))
      (pss_one (ps_expr (pe_bm PySem.F.plainAttrs_list PySem.F.slot_list_append PySem.F.type_list_append mt_append (pv 6) (pa_cons (pe_tup (pa_cons (pe_ix ix_list (pv 4) (pv 7) (fun _ _ => rfl)) (pa_cons (pe_call c_law_mixed_Str.ok (by exact hr.mono (by decide)) (by rfl) c_law_mixed_Str.gl c_law_mixed_Str.kp c_law_mixed_Str.b .nil pass0 (pa_cons (pv 0) (pa_cons (pe_lc (own := [("_law_j", 10)]) (g := gName 10) rfl sc_law_menu.nd (pi_range1 (by rfl) bt.range_ (pa_cons (pe_ix ix_list (pv 3) (pv 7) (fun _ _ => rfl)) pa_nil)) (blkOk_by (own := [("_law_j", 10)]) (N := ["_law_bag_here", "_law_most", "_law_shapes", "_law_shape", "_law_names_here", "_law_words", "_law_plain", "_law_k", "_law_begin", "_law_word", "_law_j", "_law_name", "_law_worths"]) (sc := defScope s_law_menu) (by decide +kernel)) (fun _ _ _ _ _ => (pg_name (i := 10) sc_law_menu.nd rfl (Or.inl rfl))) (fun _ _ _ _ _ => pts_nil) (fun _ _ _ _ _ => (PE.to (pe_ix ix_list (pv 5) (pe_op op_mod (pe_callTy cInt (by rfl) bt.int_ (by decide +kernel) (pa_cons (pe_op op_add (pv 8) (pv 10)) pa_nil)) pe_int) (fun _ _ => rfl)) (by dsimp only [Cx.blk] <;> rfl)))) pa_nil))) pa_nil))) pa_nil))))))
      (pss_cons (ps_while PassesOwn.never (pt_cmpR op_gt (pe_call c_law_product.ok (by exact hr.mono (by decide)) (by rfl) c_law_product.gl c_law_product.kp c_law_product.b .nil pass0 (pa_cons (pv 6) pa_nil)) (pv 1) (nomark _))
      (pss_one (ps_setLc (i := 6) (own := [("_law_name", 11), ("_law_worths", 12)]) (g := gPair W.K 11 12) rfl sc_law_menu.nd rfl rfl (sw_true rfl rfl rfl (by decide +kernel)) (pi_list (pv 6)) (blkOk_by (own := [("_law_name", 11), ("_law_worths", 12)]) (N := ["_law_bag_here", "_law_most", "_law_shapes", "_law_shape", "_law_names_here", "_law_words", "_law_plain", "_law_k", "_law_begin", "_law_word", "_law_j", "_law_name", "_law_worths"]) (sc := defScope s_law_menu) (by decide +kernel)) (fun _ _ _ _ _ => (pg_tup rfl (pgs_cons (pg_name (i := 11) sc_law_menu.nd rfl (Or.inl rfl)) (pgs_cons (pg_name (i := 12) sc_law_menu.nd rfl (Or.inl rfl)) pgs_nil)))) (fun _ _ _ _ _ => pts_nil) (fun _ _ _ _ _ => (PE.to (pe_tup (pa_cons (pv 11) (pa_cons (pe_slice sl_list (pv 12) po_none (po_some (pe_callB (cMax2 rfl) (by rfl) bt.max_ (by decide +kernel) (pa_cons pe_int (pa_cons (pe_op op_sub (pe_callB cLenS (by rfl) bt.len_ (by decide +kernel) (pa_cons (pv 12) pa_nil)) pe_int) pa_nil))))) pa_nil))) (by dsimp only [Cx.blk] <;> rfl))))))
      (pss_one (ps_ret (pv 6))))))))))), ?_⟩
    refine s_set ok (x := shapesL) (by
      refine ev_lst ?_ (by decide)
      repeat (first | exact ea_nil | refine ea_cons ev_int ?_ | refine ea_cons (ev_lst ?_ (by decide)) ?_)) fun v2 H1 e1 ok1 r2 => ?_
    refine s_setR ok1 (evr_b1 bsr (ev_var (Sl.hr r2)) ⟨by decide, by decide⟩) fun v3 shape H2 hs e2 ok2 r3 => ?_
    obtain ⟨s1, s3, sn⟩ := shapes_ok shape hs
    refine s_setR ok2 (evr_b2 bsr (ev_lenL (ev_var (Sl.hr r3))) (ev_lst (xs := (["all", "not", "and", "or"] : List Str)) (ea_cons ev_str (ea_cons ev_str (ea_cons ev_str (ea_cons ev_str ea_nil)))) (by decide)) ⟨by omega, by omega, by decide, by decide, fun z hz => by have := (isName_is (w4 z hz)).2.1; rw [len_tl]; omega⟩) fun v4 names H3 hN e3 ok3 r4 => ?_
    have hnm : ∀ z ∈ names, isName z = true := fun z hz => (hN.2.2 z hz).elim id fun h => w4 z h
    refine s_setR ok3 (evr_b2 bsr ev_int (ev_lst (xs := (["0", "all", "3a"] : List Str)) (ea_cons ev_str (ea_cons ev_str (ea_cons ev_str ea_nil))) (by decide)) ⟨by decide, by decide, by decide, by decide, w3⟩) fun v5 words0 H4 hw e4 ok4 r5 => ?_
    have hw12 : words0.length = 12 := by have := hw.1; omega
    refine s_set ok4 (x := (enum words0).map wordF) (ev_lc2 (f := wordF) (ei_enum (ev_var (Sl.hr r5))) (by rw [enum_len, hw12]; decide) (by decide) (by decide) fun i x v1 v2 M' H' hi l r1 r2 => ?_) fun v5' H5 e5 ok5 r5' => ?_
    · obtain ⟨xi, xw⟩ := x
      cases (show v1 = .int xi from r1)
      cases (show v2 = .str xw from r2)
      have hx : xi = (i : Int) ∧ i < 12 := by
        have hlt := (List.getElem?_eq_some_iff.mp hi).1
        rw [enum_len, hw12] at hlt
        have := enum_at (xs := words0) (List.getElem?_eq_getElem (show i < words0.length by omega))
        rw [this] at hi
        cases hi
        exact ⟨rfl, hlt⟩
      refine ev_ixL (ev_lst (xs := [xw, Str.ofString (toString xi)]) (ea_cons ev_vs (ea_cons (ev_strI ev_vi ?_) ea_nil)) (by show 2 ≤ _; decide)) (ev_intB (b := decide (xi % 5 = 4)) (ev_eq (ev_I (ev_intI ev_vi) ev_int (by decide)) ev_int)) ?_
      · have h12 : xi.natAbs < 2 ^ 4 := by omega
        exact Nat.lt_of_lt_of_le (PySem.Flt.log2_lt_of (by decide) h12) (by decide)
      · unfold wordF
        by_cases h5 : xi % 5 = 4
        · rw [decide_eq_true h5, if_pos h5]; rfl
        · rw [decide_eq_false h5, if_neg h5]; rfl
    have hW := words_ok hw
    generalize hww : (enum words0).map wordF = words at *
    have e05 : Ex W [] H H5 := (((e1.trans e2).trans e3).trans e4).trans e5
    refine s_new2 (α := Col) ok5 (by show 6 < 13; decide) fun p H6 hp e6 l6 ok6 A6 => ?_
    have pm : p ∉ M := ok5.new_M hp
    have hp0 : H p = none := e05.free hp
    have sub : ∀ a ∈ M, a ∈ p :: M := fun a h => by simp [h]
    have R3 : Rep W (p :: M) H6 v3 shape := (((r3.up e3).up e4).up e5).le l6
    have R4 : Rep W (p :: M) H6 v4 names := ((r4.up e4).up e5).le l6
    have R5 : Rep W (p :: M) H6 v5' words := r5'.le l6
    have e06 := e05.trans e6
    refine for_w ok6 (ei_range (ev_lenL (ev_var ⟨v3, rfl, R3⟩)) (by omega) (by omega)) (fun i σ' H' => Ex W [] H H' ∧ Ex W (p :: M) H6 H' ∧ (∃ v7 v8 v9, σ' = [some (.ref W.b), some (.int most), some v2, some v3, some v4, some v5', some (.ref p), v7, v8, v9, none, none, none]) ∧ ∃ Ls : List Col, Acc W (p :: M) σ' H' 6 p Ls ∧ Ls.map Prod.fst = names.take i ∧ ∀ c ∈ Ls, ColOk c)
      (fun H' e => ⟨e06.trans e, e.up, ⟨none, none, none, rfl⟩, [], A6.up e, rfl, fun c hc => by cases hc⟩) ?_ ?_
    · rintro i x v σ' H' hi ⟨e0, eN, ⟨v7, v8, v9, rfl⟩, Ls, A, hL1, hL2⟩ ok' H'' e'' r N hN'
      have ok'' := ok'.ex e''
      have hi' := hi
      have hin : i < shape.length := by have := (List.getElem?_eq_some_iff.mp hi).1; rw [rng_len] at this; omega
      rw [rng_at (by omega)] at hi'
      cases hi'
      cases (show v = .int (i : Int) from r)
      refine s_setR ok'' (evr_b1 bsr ev_int ⟨by decide, by decide⟩) fun v8' bg H7 hb e7 ok7 r8 => ?_
      cases (show v8' = .int bg from r8)
      have e67 : Ex W (p :: M) H6 H7 := eN.trans (e''.trans e7).up
      have hnl : names.length = shape.length := by have := hN.1; omega
      have hln : Ls.length = i := by have := congrArg List.length hL1; rw [List.length_map, List.length_take] at this; omega
      have hni : atI names (i : Int) = some names[i] := by
        rw [atI_getD Str.empty (by omega) (by omega), List.getD_eq_getElem?_getD]
        show some ((names[((i : Int)).toNat]?).getD Str.empty) = _
        rw [Int.toNat_natCast, List.getElem?_eq_getElem (by omega)]; rfl
      have hsi : atI shape (i : Int) = some shape[i] := by
        rw [atI_getD 0 (by omega) (by omega), List.getD_eq_getElem?_getD]
        show some ((shape[((i : Int)).toNat]?).getD 0) = _
        rw [Int.toNat_natCast, List.getElem?_eq_getElem (by omega)]; rfl
      have hsn := sn shape[i] (List.getElem_mem hin)
      have A7 := ((A.up (e''.trans e7)).setσ (l := 7) (v := .int (i : Int))).setσ (l := 8) (v := .int bg)
      refine s_appR (N := M) ok7 A7 (by omega) (P := fun z : Col => z.1 = names[i] ∧ z.2.Perm (runOf words bg shape[i])) (evr_pair (ev_ixL (ev_var ⟨v4, rfl, R4.ex e67⟩) ev_vi hni).r (evr_b1 bsr (ev_lc (f := fun j => words.getD ((bg + j) % 12).toNat Str.empty) (ei_range (ev_ixL (ev_var ⟨v3, rfl, R3.ex e67⟩) ev_vi hsi) (by omega) (by omega)) (by rw [rng_len]; omega) (by decide) fun j y v M' H' hj l r => ?_) ?_)) fun c H8 hc e8 e8' ok8 A8 => ?_
      · cases (show v = .int y from r)
        exact ev_ixL (n := (bg + y) % 12) (ev_var ⟨v5', rfl, (R5.ex e67).le l⟩) (ev_I (ev_intI (ev_I0 ev_vi ev_vi)) ev_int (by decide)) (run_at hW.1 bg y)
      · rw [List.length_map, rng_len]; omega
      · obtain ⟨hc1, hc2⟩ := hc
        refine hN' _ _ ⟨e8' H (e0.trans (e''.trans e7)) ok hp0, e67.trans e8, ⟨_, _, _, rfl⟩, _, A8, ?_, fun d hd => ?_⟩ (e7.up.trans e8)
        · rw [List.map_append, hL1, List.take_add_one, List.getElem?_eq_getElem (show i < names.length by omega), ← hc1]; rfl
        · rcases List.mem_append.mp hd with hd | hd
          · exact hL2 d hd
          · rw [List.mem_singleton.mp hd]
            obtain ⟨c1, c2⟩ := c
            exact run_col hW hsn.1 hsn.2 (by rw [show c1 = names[i] from hc1]; exact hnm _ (List.getElem_mem _)) hc2
    · rintro σ' H' ⟨e0, eN, ⟨v7, v8, v9, rfl⟩, Ls, A, hL1, hL2⟩ ok'
      rw [rng_len, show ((shape.length : Int)).toNat = names.length by have := hN.1; omega, List.take_length] at hL1
      have hll : Ls.length = shape.length := by have := congrArg List.length hL1; rw [List.length_map] at this; have := hN.1; omega
      have hP : Plain Ls := ⟨by omega, by omega, by rw [hL1]; exact hN.2.1, hL2⟩
      refine while_w (W := W) (M := M) (P := fun m σ' H' => Ex W [] H H' ∧ Ok W M H' ∧ σ'[1]? = some (some (.int most)) ∧ σ'.length = 13 ∧ ∃ cs, Sl W M σ' H' 6 cs ∧ Plain cs ∧ m = msr cs) (msr Ls) ⟨e0, ok'.sub sub, rfl, rfl, Ls, A.out sub pm, hP, rfl⟩ ?_
      rintro m σ' H' ⟨e0, ok', h1, hσ, cs, S6, hP, rfl⟩
      have hfew : ∀ c ∈ cs, c.2.length ≤ 1000 := fun c hc => by have := (hP.col c hc).l12; omega
      refine ⟨decide (most < prod cs), et_t (ev_B0 (ev_f1 (x := cs) (ev_var S6) hfew) (ev_vi h1)), ok', fun H2 e2 ok2 => ⟨fun hb N hN => ?_, fun hb => ?_⟩⟩
      · have hb := of_decide_eq_true hb
        refine s_set ok2 (ev_lc2 (f := short) (ei_list (ev_var (S6.up e2))) (by have := hP.l3; omega) (by decide) (by decide) fun i c v1 v2 M' H' hi l r1 r2 => ev_pair (ev_var ((Sl.here r1 (by rw [wipe_len, hσ]; decide)).set Ex.refl)) ?_) fun v6 H3 e3 ok3 r6 => ?_
        · have S12 : Sl W M' (((L2.wipe σ' [11, 12]).set 11 (some v1)).set 12 (some v2)) H' 12 c.2 := Sl.here r2 (by rw [List.length_set, wipe_len, hσ]; decide)
          refine (ev_slL (ev_var S12) eo_none (eo_some (ev_max2 ev_int (ev_I0 (ev_lenL (ev_var S12)) ev_int)))).is (cutG_to ?_)
          split <;> omega
        · have hs := (short_msr (cs := cs) fun c hc => (hP.col c hc).l1).2 (by have : 1 ≤ most := hm; omega)
          exact hN _ _ _ hs ⟨(e0.trans e2).trans e3, ok3, by rw [List.getElem?_set_ne (by decide)]; exact h1, by rw [List.length_set, hσ], _, Sl.here r6 (by rw [hσ]; decide), hP.short, rfl⟩
      · have hb := of_decide_eq_false hb
        exact s_ret ok2 (ev_var (S6.up e2)) fun v H3 e3 r => k v cs H3 ⟨hP, by omega⟩ ((e0.trans e2).trans e3) r

abbrev s_law_kinds : Stmt := topS 40
theorem sc_law_kinds : FnScope ["_law_plain", "_law_found", "_law_name", "_law_worths", "_law_longer", "_law_kind", "_law_worth"] ["_law_plain"] (defScope s_law_kinds) := ⟨rfl, rfl, rfl, by decide +kernel, rfl, by decide +kernel, by decide +kernel⟩

theorem ok_law_kinds {f : Addr} {fd : FuncData} (F : Fun K "_law_kinds" "_law_kinds" s_law_kinds f fd) (bt : Bt mg) :
    FnOk P w K mg base CX0 1 f fd ["_law_plain"] (sp_law_kinds K C) := by
  refine F.ok sc_law_kinds (fun vs H Q E h => ?_) (fun cdv A outer s H vs Q E hr h => ?_)
  · obtain ⟨W, M, v, z, _, _, rfl, _⟩ := h; rfl
  · obtain ⟨W, M, v, cs, rfl, rfl, rfl, ok, r, hz, k⟩ := h
    have S0 : Sl W M (L2.start ["_law_plain", "_law_found", "_law_name", "_law_worths", "_law_longer", "_law_kind", "_law_worth"] [v]) H 0 cs := ⟨v, rfl, r⟩
    refine ⟨_, (pss_cons (ps_set (i := 1) sc_law_kinds.nd rfl (.inl rfl) (pe_lst (pa_cons (pe_tup pa_nil) pa_nil)))
      (pss_cons (ps_for PassesOwn.never rfl (pi_list (pv 0)) (pg_tup rfl (pgs_cons (pg_name (i := 2) sc_law_kinds.nd rfl (Or.inl rfl)) (pgs_cons (pg_name (i := 3) sc_law_kinds.nd rfl (Or.inl rfl)) pgs_nil)))
      (pss_cons (ps_set (i := 4) sc_law_kinds.nd rfl (.inl rfl) (pe_lst pa_nil))
      (pss_cons (ps_for PassesOwn.never rfl (pi_list (pv 1)) (pg_name (i := 5) sc_law_kinds.nd rfl (Or.inr rfl))
      (pss_one (ps_set (i := 4) sc_law_kinds.nd rfl (.inl rfl) (pe_op op_cat (pv 4) (pe_lc (own := [("_law_worth", 6)]) (g := gName 6) rfl sc_law_kinds.nd (pi_list (pv 3)) (blkOk_by (own := [("_law_worth", 6)]) (N := ["_law_plain", "_law_found", "_law_name", "_law_worths", "_law_longer", "_law_kind", "_law_worth"]) (sc := defScope s_law_kinds) (by decide +kernel)) (fun _ _ _ _ _ => (pg_name (i := 6) sc_law_kinds.nd rfl (Or.inl rfl))) (fun _ _ _ _ _ => pts_nil) (fun _ _ _ _ _ => (PE.to (pe_op op_catA (pv 5) (pe_tup (pa_cons (pv 6) pa_nil))) (by dsimp only [Cx.blk] <;> rfl))))))))
      (pss_one (ps_set (i := 1) sc_law_kinds.nd rfl (.inl rfl) (pv 4))))))
      (pss_one (ps_ret (pv 1))))), ?_⟩
    refine s_set ok (ev_lst (ea_cons (ev_tupK ea_nil (Nat.zero_le _)) ea_nil) (by decide)) fun v1 H1 e1 ok1 r1 => ?_
    refine for_w ok1 (ei_list (ev_var (S0.set e1))) (fun i σ' H' => Ex W [] H H' ∧ σ'.length = 7 ∧ Sl W M σ' H' 1 ((kinds (cs.take i)).map TupK.mk)) (fun H' e => ⟨e1.trans e, rfl, (Sl.hr r1).up e⟩) ?_ ?_
    · rintro i c v σ' H' hi ⟨e0, hσ, S1⟩ ok' H'' e'' r N hN
      have ok'' := ok'.ex e''
      refine gPair_rd r fun v1 v2 r1 r2 => ?_
      have S3 : Sl W M ((σ'.set 2 (some v1)).set 3 (some v2)) H'' 3 c.2 := Sl.here r2 (by rw [List.length_set, hσ]; decide)
      have S1' : Sl W M ((σ'.set 2 (some v1)).set 3 (some v2)) H'' 1 _ := ((S1.up e'').set Ex.refl).set Ex.refl
      have hin : i < 3 := Nat.lt_of_lt_of_le (List.getElem?_eq_some_iff.mp hi).1 hz.1
      have hc : c.2.length ≤ 12 := hz.2 c (List.mem_of_getElem? hi)
      have hlen : (kinds (cs.take i)).length ≤ 144 := (hz.take i).num (by rw [List.length_take]; omega)
      refine s_set ok'' (ev_lst (ea_nil (α := TupK)) (Nat.zero_le _)) fun v4 H3 e3 ok3 r4 => ?_
      have hl4 : 4 < ((σ'.set 2 (some v1)).set 3 (some v2)).length := by rw [List.length_set, List.length_set, hσ]; decide
      refine for_w ok3 (ei_list (ev_var (S1'.set e3))) (fun j σ2 H2 => Ex W [] H'' H2 ∧ σ2.length = 7 ∧ Sl W M σ2 H2 3 c.2 ∧ Sl W M σ2 H2 4 ((((kinds (cs.take i)).map TupK.mk).take j).flatMap fun k => c.2.map fun s => TupK.mk (k.l ++ [s])))
        (fun H4 e4 => ⟨e3.trans e4, by rw [List.length_set, List.length_set, List.length_set, hσ], (S3.set e3).up e4, (Sl.here r4 hl4).up e4⟩) ?_ ?_
      · rintro j x v5 σ2 H2 hj ⟨e2, hσ2, T3, T4⟩ ok2 H4 e4 r5 N2 hN2
        have ok4 := ok2.ex e4
        have hl2 : ∀ j, j < 7 → j < (σ2.set 5 (some v5)).length := fun j hj => by rw [List.length_set, hσ2]; exact hj
        have hm := List.mem_of_getElem? hj
        have hx : x.l.length ≤ 3 := by
          obtain ⟨y, hy, rfl⟩ := List.mem_map.mp hm
          have := kind_len hy
          rw [List.length_take] at this
          show y.length ≤ 3
          omega
        refine s_set ok4 (ev_cat (ev_var ((T4.up e4).set Ex.refl)) (ev_lc (f := fun s => TupK.mk (x.l ++ [s])) (ei_list (ev_var ((T3.up e4).set Ex.refl))) (by omega) (by decide) fun i s v M' H' hi l r =>
          ev_catK (x := x) (y := ⟨[s]⟩) (ev_var ((Sl.here r5 (by rw [hσ2]; decide)).lc l)) (ev_tupK (ea_cons (ev_var (Sl.me r (hl2 6 (by decide)))) ea_nil) (by show 1 ≤ _; decide)) (by show _ + 1 ≤ _; omega)) ?_) fun v6 H5 e5 ok5 r6 => ?_
        · rw [List.length_map]
          have hb : ∀ (l : List TupK), (l.flatMap fun k => c.2.map fun s => TupK.mk (k.l ++ [s])).length = l.length * c.2.length := by
            intro l
            induction l with
            | nil => simp
            | cons a t ih => rw [List.flatMap_cons, List.length_append, ih, List.length_map, List.length_cons, Nat.succ_mul, Nat.add_comm]
          rw [hb]
          have h1 : (((kinds (cs.take i)).map (TupK.mk)).take j).length ≤ 144 := by rw [List.length_take, List.length_map]; omega
          have := Nat.mul_le_mul h1 hc
          omega
        · refine hN2 _ _ ⟨e2.trans (e4.trans e5), by rw [List.length_set, List.length_set, hσ2], ((T3.up e4).set Ex.refl).set e5, ?_⟩ e5.up
          rw [List.take_add_one, hj, List.flatMap_append]
          refine Sl.here ?_ (hl2 4 (by decide))
          simpa using r6
      · rintro σ2 H2 ⟨e2, hσ2, T3, T4⟩ ok2
        rw [List.take_length] at T4
        refine s_set ok2 (ev_var T4) fun v7 H6 e6 ok6 r7 => hN _ _ ⟨e0.trans (e''.trans (e2.trans e6)), by rw [List.length_set, hσ2], ?_⟩ (e2.trans e6).up
        refine Sl.here ?_ (by rw [hσ2]; decide)
        rw [kinds_take hi, kstep_mk]
        exact r7
    · rintro σ' H' ⟨e0, hσ, S1⟩ ok'
      rw [List.take_length] at S1
      exact s_ret ok' (ev_var S1) fun v H3 e3 r => k v H3 (e0.trans e3) r

abbrev s_law_menu_text : Stmt := topS 41
theorem sc_law_menu_text : FnScope ["_law_plain", "_law_name", "_law_worths"] ["_law_plain"] (defScope s_law_menu_text) := ⟨rfl, rfl, rfl, by decide +kernel, rfl, by decide +kernel, by decide +kernel⟩

theorem ok_law_menu_text {f : Addr} {fd : FuncData} (F : Fun K "_law_menu_text" "_law_menu_text" s_law_menu_text f fd) (bt : Bt mg) :
    FnOk P w K mg base CX0 1 f fd ["_law_plain"] (sp_law_menu_text K C) := by
  refine F.ok sc_law_menu_text (fun vs H Q E h => ?_) (fun cdv A outer s H vs Q E hr h => ?_)
  · obtain ⟨W, M, v, z, _, _, rfl, _⟩ := h; rfl
  · obtain ⟨W, M, v, cs, rfl, rfl, rfl, ok, r, hz, k⟩ := h
    have S0 : Sl W M (L2.start ["_law_plain", "_law_name", "_law_worths"] [v]) H 0 cs := ⟨v, rfl, r⟩
    obtain ⟨hf, h3, h12⟩ := hz
    have hin : ∀ c ∈ cs, ∀ x ∈ c.1 :: c.2, x.length ≤ 1000 := fun c hc x hx => by
      obtain ⟨q1, _, q3⟩ := hf.2 c hc
      rcases List.mem_cons.mp hx with rfl | hx
      · exact q1
      · exact q3 x hx
    have hn : ∀ c ∈ cs, (c.1 :: c.2).length * (1000 + 1) ≤ 13013 := fun c hc => by have := h12 c hc; rw [List.length_cons]; omega
    refine ⟨_, (pss_one (ps_ret (peJoin pe_str (pe_lc (own := [("_law_name", 1), ("_law_worths", 2)]) (g := gPair W.K 1 2) rfl sc_law_menu_text.nd (pi_list (pv 0)) (blkOk_by (own := [("_law_name", 1), ("_law_worths", 2)]) (N := ["_law_plain", "_law_name", "_law_worths"]) (sc := defScope s_law_menu_text) (by decide +kernel)) (fun _ _ _ _ _ => (pg_tup rfl (pgs_cons (pg_name (i := 1) sc_law_menu_text.nd rfl (Or.inl rfl)) (pgs_cons (pg_name (i := 2) sc_law_menu_text.nd rfl (Or.inl rfl)) pgs_nil)))) (fun _ _ _ _ _ => pts_nil) (fun _ _ _ _ _ => (PE.to (peJoin pe_str (pe_op op_cat (pe_lst (pa_cons (pv 1) pa_nil)) (pv 2))) (by dsimp only [Cx.blk] <;> rfl))))))), ?_⟩
    refine s_ret ok (ev_join (ev_str (s := "; ")) (ev_lc2 (f := fun c : Col => Txt.join " " (c.1 :: c.2)) (ei_list (ev_var S0)) (by omega) (by decide) (by decide) fun i c v1 v2 M' H' hi l r1 r2 => (ev_join (ev_str (s := " "))
      (ev_cat (ev_lst (ea_cons (ev_var ((Sl.me r1).set Ex.refl)) ea_nil) (by show 1 ≤ _; decide)) (ev_var (Sl.hr r2)) ?_) ?_)) ?_) fun v H3 e3 r => k v H3 e3 r
    · have := h12 c (List.mem_of_getElem? hi)
      show 1 + _ ≤ _
      omega
    · have hc := List.mem_of_getElem? hi
      have h1 := join_le (z := " ") (xs := c.1 :: c.2) (hin c hc)
      have h2 := hn c hc
      exact Nat.le_trans h1 (Nat.le_trans h2 (by decide))
    · refine Nat.le_trans (join_le (n := 13013) fun x hx => ?_) ?_
      · obtain ⟨c, hc, rfl⟩ := List.mem_map.mp hx
        exact Nat.le_trans (join_len (z := " ") (xs := c.1 :: c.2) (hin c hc)) (hn c hc)
      · rw [List.length_map]
        refine Nat.le_trans (Nat.mul_le_mul_right _ h3) (by decide)

abbrev s_law_made_menu : Stmt := topS 42
theorem sc_law_made_menu : FnScope ["_law_plain", "_law_name", "_law_worths"] ["_law_plain"] (defScope s_law_made_menu) := ⟨rfl, rfl, rfl, by decide +kernel, rfl, by decide +kernel, by decide +kernel⟩

theorem ok_law_made_menu {f : Addr} {fd : FuncData} (F : Fun K "_law_made_menu" "_law_made_menu" s_law_made_menu f fd) (bt : Bt mg)
    (k_Menu_read : CmC P w K mg base 6 (C "Menu") "Menu" "read" ["cls", "text"] (sp_Menu_read K C))
    (c_law_menu_text : Cal P w K mg base 1 "_law_menu_text" ["_law_plain"] (sp_law_menu_text K C))
    (m_Menu : MakC P w K mg base 4 (C "Menu") "Menu" ["self", "columns"] (sp_Menu_init K C)) :
    FnOk P w K mg base CX0 7 f fd ["_law_plain"] (sp_law_made_menu K C) := by
  refine F.ok sc_law_made_menu (fun vs H Q E h => ?_) (fun cdv A outer s H vs Q E hr h => ?_)
  · obtain ⟨W, M, v, z, _, _, rfl, _⟩ := h; rfl
  · obtain ⟨W, M, v, cs, rfl, rfl, rfl, ok, r, ⟨hP, h12⟩, k⟩ := h
    have S0 : Sl W M (L2.start ["_law_plain", "_law_name", "_law_worths"] [v]) H 0 cs := ⟨v, rfl, r⟩
    have hcl : cs.length ≤ 1000 := by have := hP.l3; omega
    have huq : (Sq.mk (cs.map toQ)).l.map unQ = cs := unQ_map cs
    refine ⟨_, (pss_cons (ps_if (pt_cmpR op_eq (pe_callB cLenS (by rfl) bt.len_ (by decide +kernel) (pa_cons (pv 0) pa_nil)) pe_int (nomark _)) (pss_one (ps_ret (ClX.pe_cmeth (pe_glob (v := .ref (W.C "Menu")) rfl k_Menu_read.gl rfl) k_Menu_read.rd k_Menu_read.cm (fnR_of k_Menu_read.ok k_Menu_read.b) (by exact hr.mono (by decide)) pass0 (pa_cons (pe_call c_law_menu_text.ok (by exact hr.mono (by decide)) (by rfl) c_law_menu_text.gl c_law_menu_text.kp c_law_menu_text.b .nil pass0 (pa_cons (pv 0) pa_nil)) pa_nil)))) pss_nil)
      (pss_one (ps_ret (pe_make m_Menu.mo m_Menu.ok (by exact hr.mono (by decide)) (by rfl) m_Menu.gl m_Menu.b .nil pass0 (pa_cons (pe_lc (own := [("_law_name", 1), ("_law_worths", 2)]) (g := gPair W.K 1 2) rfl sc_law_made_menu.nd (pi_list (pv 0)) (blkOk_by (own := [("_law_name", 1), ("_law_worths", 2)]) (N := ["_law_plain", "_law_name", "_law_worths"]) (sc := defScope s_law_made_menu) (by decide +kernel)) (fun _ _ _ _ _ => (pg_tup rfl (pgs_cons (pg_name (i := 1) sc_law_made_menu.nd rfl (Or.inl rfl)) (pgs_cons (pg_name (i := 2) sc_law_made_menu.nd rfl (Or.inl rfl)) pgs_nil)))) (fun _ _ _ _ _ => pts_nil) (fun _ _ _ _ _ => (PE.to (pe_tup (pa_cons (pv 1) (pa_cons (pe_callTy cListOf (by rfl) bt.list_ (by decide +kernel) (pa_cons (pv 2) pa_nil)) pa_nil))) (by dsimp only [Cx.blk] <;> rfl)))) pa_nil))))), ?_⟩
    refine s_if ok (et_t (ev_eq (ev_lenL (ev_var S0)) ev_int)) (fun hb H1 e1 ok1 => ?_) (fun hb H1 e1 ok1 => ?_)
    · refine ⟨rfl, (show Ev W M (tCall (sp_law_menu_text W.K W.C) [] E0 (tCons (tVar 0) tNil)) _ H1 (menuText cs) from ev_f1 (ev_var (S0.up e1)) ⟨hP.fair, hP.l3, fun c hc => (hP.col c hc).l12⟩) H1 Ex.refl ok1 _ fun v2 H2 e2 r2 => ?_⟩
      cases (show v2 = .str _ from r2)
      refine ⟨W, M, menuText cs, rfl, rfl, rfl, ok1.ex e2, hP.tlen, fun p hp => ?_, by rw [hP.read]; exact hP.fair, by rw [hP.read]; exact hP.are h12, fun r H3 e3 rr => k r H3 ((e1.trans e2).trans e3) (by rw [hP.read] at rr; exact rr)⟩
      rw [hP.split] at hp
      obtain ⟨c, hc, rfl⟩ := List.mem_map.mp hp
      refine ⟨Nat.le_trans (hP.col c hc).plen (by decide), ?_⟩
      rw [(hP.col c hc).split]
      exact fun z => nomatch z
    · refine s_ret ok1 ((ev_make (x := Sq.mk (cs.map toQ)) (f := fun cs : Sq ColQ => Menu.mk (cs.l.map unQ)) ((ev_lc2 (f := fun c : Col => c) (ei_list (ev_var (S0.up e1))) (by omega) (by decide) (by decide) fun i c v1 v2 M' H' hi l r1 r2 => ev_pair (ev_var ((Sl.me r1).set Ex.refl)) (ev_list (ev_var (Sl.hr r2)))).cv fun _ _ r => by rw [List.map_id'] at r; exact r.colsQ) ⟨by rw [huq]; exact hP.fair, by rw [huq]; exact hP.are h12⟩).is (x' := Menu.mk cs) (by rw [huq])) fun v H3 e3 r => k v H3 (e1.trans e3) r

abbrev s_law_counts : Stmt := topS 43
theorem sc_law_counts : FnScope ["_law_bag_here", "_law_many", "_law_most", "_law_size", "_law_place"] ["_law_bag_here", "_law_many", "_law_most"] (defScope s_law_counts) := ⟨rfl, rfl, rfl, by decide +kernel, rfl, by decide +kernel, by decide +kernel⟩

theorem ok_law_counts {f : Addr} {fd : FuncData} (F : Fun K "_law_counts" "_law_counts" s_law_counts f fd) (bt : Bt mg)
    (c_law_draw : Cal P w K mg base 1 "_law_draw" ["_law_bag_here", "_law_size"] (sp_law_draw K C)) :
    FnOk P w K mg base CX0 2 f fd ["_law_bag_here", "_law_many", "_law_most"] (sp_law_counts K C) := by
  refine F.ok sc_law_counts (fun vs H Q E h => ?_) (fun cdv A outer s H vs Q E hr h => ?_)
  · obtain ⟨W, M, v, u, x, y, _, _, rfl, _⟩ := h; rfl
  · obtain ⟨W, M, v, u, many, most, rfl, rfl, rfl, ok, r, rd, ⟨h0, h1, h2, h3⟩, k⟩ := h
    cases (show v = .int many from r)
    cases (show u = .int most from rd)
    have hat : ∀ n : Int, 0 ≤ n ∧ n < 3 → ∃ x, atI [2, 3, most + 1] n = some x ∧ (1 ≤ x ∧ x ≤ 1000001) := fun n hn => by
      have : n = 0 ∨ n = 1 ∨ n = 2 := by omega
      rcases this with rfl | rfl | rfl
      · exact ⟨2, rfl, by decide⟩
      · exact ⟨3, rfl, by decide⟩
      · exact ⟨most + 1, rfl, by omega⟩
    refine ⟨_, (pss_cons (ps_set (i := 3) sc_law_counts.nd rfl (.inr rfl) (pe_ix ix_list (pe_lst (pa_cons pe_int (pa_cons pe_int (pa_cons (pe_op op_add (pv 2) pe_int) pa_nil)))) (pe_call c_law_draw.ok (by exact hr.mono (by decide)) (by rfl) c_law_draw.gl c_law_draw.kp c_law_draw.b .nil pass0 (pa_cons (pv 0) (pa_cons pe_int pa_nil))) (fun _ _ => rfl)))
      (pss_one (ps_ret (pe_lc (own := [("_law_place", 4)]) (g := gName 4) rfl sc_law_counts.nd (pi_range1 (by rfl) bt.range_ (pa_cons (pv 1) pa_nil)) (blkOk_by (own := [("_law_place", 4)]) (N := ["_law_bag_here", "_law_many", "_law_most", "_law_size", "_law_place"]) (sc := defScope s_law_counts) (by decide +kernel)) (fun _ _ _ _ _ => (pg_name (i := 4) sc_law_counts.nd rfl (Or.inl rfl))) (fun _ _ _ _ _ => pts_nil) (fun _ _ _ _ _ => (PE.to (pe_callB (cMin2 rfl) (by rfl) bt.min_ (by decide +kernel) (pa_cons (pv 2) (pa_cons (pe_call c_law_draw.ok (by exact hr.mono (by decide)) (by rfl) c_law_draw.gl c_law_draw.kp c_law_draw.b .nil pass0 (pa_cons (pv 0) (pa_cons (pv 3) pa_nil))) pa_nil))) (by dsimp only [Cx.blk] <;> rfl))))))), ?_⟩
    refine s_setR ok (evr_ixL (xs := [2, 3, most + 1]) (ev_lst (ea_cons ev_int (ea_cons ev_int (ea_cons (ev_I0 (ev_vi (i := 2)) ev_int) ea_nil))) (by show 3 ≤ 1000000; decide)) (evr_b1 (bsr (i := 0)) (ev_int (n := 3)) (by decide)) hat) fun v3 sz H1 hsz e1 ok1 r1 => ?_
    cases (show v3 = .int sz from r1)
    refine s_retR ok1 ((evr_lc (R := fun _ (n : Int) => 0 ≤ n ∧ n ≤ most) (ei_range (ev_vi (i := 1)) (by omega) (by omega)) (by rw [rng_len]; omega) (by decide) fun i x v M' H' hi l rx => ?_).imp fun ys hys => ?_) fun v ys H3 hy e3 r => k v ys H3 hy (e1.trans e3) r
    · refine evr_min (ev_vi (i := 2)) (evr_b1 (bsr (i := 0)) (ev_vi (i := 3)) ⟨hsz.1, Int.lt_of_le_of_lt hsz.2 (by decide)⟩) fun j hj => ?_
      split <;> omega
    · refine ⟨by rw [← Pd.length hys, rng_len]; omega, fun n hn => ?_⟩
      obtain ⟨j, hj⟩ := List.mem_iff_getElem?.mp hn
      obtain ⟨_, _, hr⟩ := Pd.get hys hj
      exact hr

abbrev s_law_numbers : Stmt := topS 44
theorem sc_law_numbers : FnScope ["_law_plain", "_law_counts_here", "_law_kinds_here", "_law_numbers_here", "_law_place"] ["_law_plain", "_law_counts_here"] (defScope s_law_numbers) := ⟨rfl, rfl, rfl, by decide +kernel, rfl, by decide +kernel, by decide +kernel⟩

theorem ok_law_numbers {f : Addr} {fd : FuncData} (F : Fun K "_law_numbers" "_law_numbers" s_law_numbers f fd) (bt : Bt mg)
    (c_law_kinds : Cal P w K mg base 1 "_law_kinds" ["_law_plain"] (sp_law_kinds K C)) :
    FnOk P w K mg base CX0 2 f fd ["_law_plain", "_law_counts_here"] (sp_law_numbers K C) := by
  refine F.ok sc_law_numbers (fun vs H Q E h => ?_) (fun cdv A outer s H vs Q E hr h => ?_)
  · obtain ⟨W, M, v, u, x, y, _, _, rfl, _⟩ := h; rfl
  · obtain ⟨W, M, v, u, cs, ns, rfl, rfl, rfl, ok, r, rd, hT, k⟩ := h
    have hk12 := hT.k12
    have S0 : ∀ o2 o3 o4, Sl W M [some v, some u, o2, o3, o4] H 0 cs := fun _ _ _ => ⟨v, rfl, r⟩
    have S1 : ∀ o2 o3 o4, Sl W M [some v, some u, o2, o3, o4] H 1 ns := fun _ _ _ => ⟨u, rfl, rd⟩
    refine ⟨_, (pss_cons (ps_set (i := 2) sc_law_numbers.nd rfl (.inl rfl) (pe_call c_law_kinds.ok (by exact hr.mono (by decide)) (by rfl) c_law_kinds.gl c_law_kinds.kp c_law_kinds.b .nil pass0 (pa_cons (pv 0) pa_nil)))
      (pss_cons (ps_set (i := 3) sc_law_numbers.nd rfl (.inl rfl) pe_dnewT)
      (pss_cons (ps_for PassesOwn.never rfl (pi_range1 (by rfl) bt.range_ (pa_cons (pe_callB cLenS (by rfl) bt.len_ (by decide +kernel) (pa_cons (pv 2) pa_nil)) pa_nil)) (pg_name (i := 4) sc_law_numbers.nd rfl (Or.inl rfl))
      (pss_one (ps_if (PW.pt (pw_or (pt_cmpR op_gt (pe_ix ix_list (pv 1) (pv 4) (fun _ _ => rfl)) pe_int (nomark _)) (pw_or1 (pt_cmpR op_eq (pe_op op_mod (pv 4) pe_int) pe_int (nomark _))))) (pss_one (ps_dput (by exact u1 hr) (pv 3) (pe_ix ix_list (pv 2) (pv 4) (fun _ _ => rfl)) (pe_ix ix_list (pv 1) (pv 4) (fun _ _ => rfl)) rfl)) pss_nil)))
      (pss_one (ps_ret (pv 3)))))), ?_⟩
    refine s_set ok (x := (kinds cs).map TupK.mk) (ev_f1 (ev_var (S0 none none none)) hT.pl.few) fun v2 H1 e1 ok1 r1 => ?_
    refine s_dnew ok1 (by show 3 < 5; decide) fun p H2 hp e2 l2 ok2 A2 => ?_
    have pm : p ∉ M := ok1.new_M hp
    have sub : ∀ a ∈ M, a ∈ p :: M := fun a h => by simp [h]
    have hpH : H p = none := e1.free hp
    have S2 : ∀ o4, Sl W (p :: M) [some v, some u, some v2, some (.ref p), o4] H2 2 ((kinds cs).map TupK.mk) := fun _ => (show Sl W M [some v, some u, some v2, some (.ref p), _] H1 2 ((kinds cs).map TupK.mk) from ⟨v2, rfl, r1⟩).le l2
    have S1' : ∀ o4, Sl W (p :: M) [some v, some u, some v2, some (.ref p), o4] H2 1 ns := fun _ => ((S1 (some v2) (some (.ref p)) _).up e1).le l2
    refine for_w ok2 (ei_range (ev_lenL (ev_var (S2 none))) (by rw [List.length_map]; omega) (by omega)) (fun i σ' H' => Ex W [] H H' ∧ Ex W (p :: M) H2 H' ∧ ∃ o4, σ' = [some v, some u, some v2, some (.ref p), o4] ∧ AccD W (p :: M) σ' H' 3 p (numsTo cs ns i)) (fun H' e => ⟨(e1.trans e2).trans e, e.up, none, rfl, A2.up e⟩) ?_ ?_
    · rintro i x vx σ' H' hi ⟨e0, eM, o4, rfl, A⟩ ok' H'' e'' rx N hN
      have ok'' := ok'.ex e''
      have hlt : i < (kinds cs).length := by
        have := (List.getElem?_eq_some_iff.mp hi).1
        rw [rng_len, List.length_map] at this
        omega
      have hx : x = (i : Int) := by
        rw [rng_at (by rw [List.length_map]; omega)] at hi
        exact (Option.some.inj hi).symm
      subst hx
      cases (show vx = .int i from rx)
      have e2'' : Ex W (p :: M) H2 H'' := eM.trans e''.up
      have hn : atI ns (i : Int) = some (ns.getD i 0) := atI_getD 0 (by omega) (by rw [hT.len]; omega)
      have hk : atI ((kinds cs).map TupK.mk) (i : Int) = some (TupK.mk ((kinds cs).getD i [])) := by
        refine atI_nat ?_
        rw [List.getElem?_map, List.getD_eq_getElem?_getD, List.getElem?_eq_getElem hlt]; rfl
      have T1 := (S1' (some (.int (i : Int)))).ex e2''
      have T2 := (S2 (some (.int (i : Int)))).ex e2''
      have A'' := (A.up e'').setσ (i := 4) (v := .int (i : Int))
      refine s_if ok'' (Et.is (et_or (et_t (ev_B0 (ev_ixL (ev_var T1) (ev_vi (i := 4)) hn) ev_int)) fun _ => et_t (ev_eq (ev_I (ev_vi (i := 4)) ev_int (by decide)) ev_int)) (c := keepP ns i) rfl) (fun hb H3 e3 ok3 => ?_) fun hb H3 e3 ok3 => ?_
      · refine s_dput (key := TupK.mk ((kinds cs).getD i [])) (n := ns.getD i 0) ok3 (A''.up e3) (Nat.le_trans numsTo_len (by omega)) (ev_ixL (ev_var (T1.up e3)) (ev_vi (i := 4)) hn) (ev_ixL (ev_var (T2.up e3)) (ev_vi (i := 4)) hk) fun H4 e4 e4' ok4 A4 => ?_
        rw [numsTo_put hT hlt hb] at A4
        exact hN _ _ ⟨e4' H M ((e0.trans e'').trans e3) ok hpH, e2''.trans (e3.up.trans e4), _, rfl, A4⟩ (e3.up.trans e4)
      · refine hN _ _ ⟨(e0.trans e'').trans e3, e2''.trans e3.up, _, rfl, ?_⟩ e3.up
        rw [numsTo_skip hb]
        exact A''.up e3
    · rintro σ' H' ⟨e0, eM, o4, rfl, A⟩ ok'
      have A := A.out pm
      rw [rng_len, List.length_map, Int.toNat_natCast] at A
      exact s_ret (ok'.sub sub) (ev_var A) fun v' H9 e9 r9 => k v' H9 (e0.trans e9) r9

abbrev s_law_table_text : Stmt := topS 45
theorem sc_law_table_text : FnScope ["_law_plain", "_law_counts_here", "_law_kinds_here", "_law_parts", "_law_k"] ["_law_plain", "_law_counts_here"] (defScope s_law_table_text) := ⟨rfl, rfl, rfl, by decide +kernel, rfl, by decide +kernel, by decide +kernel⟩

theorem ok_law_table_text {f : Addr} {fd : FuncData} (F : Fun K "_law_table_text" "_law_table_text" s_law_table_text f fd) (bt : Bt mg)
    (c_law_kinds : Cal P w K mg base 1 "_law_kinds" ["_law_plain"] (sp_law_kinds K C)) :
    FnOk P w K mg base CX0 2 f fd ["_law_plain", "_law_counts_here"] (sp_law_table_text K C) := by
  refine F.ok sc_law_table_text (fun vs H Q E h => ?_) (fun cdv A outer s H vs Q E hr h => ?_)
  · obtain ⟨W, M, v, u, x, y, _, _, rfl, _⟩ := h; rfl
  · obtain ⟨W, M, v, u, cs, ns, rfl, rfl, rfl, ok, r, rd, ⟨hT, hb⟩, k⟩ := h
    have hk12 := hT.k12
    have hpl := hT.parts_len
    have S0 : ∀ o2 o3 o4, Sl W M [some v, some u, o2, o3, o4] H 0 cs := fun _ _ _ => ⟨v, rfl, r⟩
    have S1 : ∀ o2 o3 o4, Sl W M [some v, some u, o2, o3, o4] H 1 ns := fun _ _ _ => ⟨u, rfl, rd⟩
    have hn : ∀ x : Int, x ∈ rng ((kinds cs).length : Int) → atI ns x = some (ns.getD x.toNat 0) := fun x hx => atI_getD 0 (rng_mem.mp hx).1 (by have := (rng_mem.mp hx).2; rw [hT.len]; exact this)
    have hkk : ∀ x : Int, x ∈ rng ((kinds cs).length : Int) → atI ((kinds cs).map TupK.mk) x = some (TupK.mk ((kinds cs).getD x.toNat [])) := fun x hx => by
      obtain ⟨h0, h1⟩ := rng_mem.mp hx
      rw [atI_getD (TupK.mk []) h0 (by rw [List.length_map]; exact h1), List.getD_eq_getElem?_getD, List.getElem?_map, List.getD_eq_getElem?_getD]
      cases (kinds cs)[x.toNat]? <;> rfl
    have hll : (((kinds cs).map TupK.mk).length : Int) = (kinds cs).length := by rw [List.length_map]
    refine ⟨_, (pss_cons (ps_set (i := 2) sc_law_table_text.nd rfl (.inr rfl) (pe_call c_law_kinds.ok (by exact hr.mono (by decide)) (by rfl) c_law_kinds.gl c_law_kinds.kp c_law_kinds.b .nil pass0 (pa_cons (pv 0) pa_nil)))
      (pss_cons (ps_setLc (i := 3) (own := [("_law_k", 4)]) (g := gName 4) rfl sc_law_table_text.nd rfl rfl (sw_true rfl rfl rfl (by decide +kernel)) (pi_range1 (by rfl) bt.range_ (pa_cons (pe_callB cLenS (by rfl) bt.len_ (by decide +kernel) (pa_cons (pv 2) pa_nil)) pa_nil)) (blkOk_by (own := [("_law_k", 4)]) (N := ["_law_plain", "_law_counts_here", "_law_kinds_here", "_law_parts", "_law_k"]) (sc := defScope s_law_table_text) (by decide +kernel)) (fun _ _ _ _ _ => (pg_name (i := 4) sc_law_table_text.nd rfl (Or.inl rfl))) (fun _ _ _ _ _ => (pts_one (PT.to (pt_cmpR op_gt (pe_ix ix_list (pv 1) (pv 4) (fun _ _ => rfl)) pe_int (nomark _)) (by dsimp only [Cx.blk] <;> rfl)))) (fun _ _ _ _ _ => (PE.to (peJoin pe_str (pe_op op_cat (pe_lst (pa_cons (pe_callTy cStrI (by rfl) bt.str_ (by decide +kernel) (pa_cons (pe_ix ix_list (pv 1) (pv 4) (fun _ _ => rfl)) pa_nil)) pa_nil)) (pe_callTy cListOf (by rfl) bt.list_ (by decide +kernel) (pa_cons (pe_ix ix_list (pv 2) (pv 4) (fun _ _ => rfl)) pa_nil)))) (by dsimp only [Cx.blk] <;> rfl))))
      (pss_cons (ps_if (pt_cmpR (op_eqE (by exact hr.units)) (pv 3) (pe_lst pa_nil) (nomark _)) (pss_one (ps_ret pe_str)) pss_nil)
      (pss_one (ps_ret (peJoin pe_str (pv 3))))))), ?_⟩
    refine s_set ok (x := (kinds cs).map TupK.mk) (ev_f1 (ev_var (S0 none none none)) hT.pl.few) fun v2 H1 e1 ok1 r1 => ?_
    have S2 : ∀ o3 o4, Sl W M [some v, some u, some v2, o3, o4] H1 2 ((kinds cs).map TupK.mk) := fun _ _ => ⟨v2, rfl, r1⟩
    have S1' : ∀ o3 o4, Sl W M [some v, some u, some v2, o3, o4] H1 1 ns := fun _ _ => (S1 _ _ _).up e1
    have hpos : ∀ x : Int, x ∈ rng ((kinds cs).length : Int) → decide (0 < ns.getD x.toNat 0) = true → (kinds cs).getD x.toNat [] ∈ kinds cs ∧ 0 < ns.getD x.toNat 0 ∧ ns.getD x.toNat 0 < 10 ^ 40 := fun x hx hp => by
      obtain ⟨h0, h1⟩ := rng_mem.mp hx
      exact ⟨getD_mem (by omega), of_decide_eq_true hp, hb _ (getD_mem (by rw [hT.len]; omega))⟩
    refine s_set ok1 (x := tabParts cs ns) ((ev_lcf (p := fun x : Int => decide (0 < ns.getD x.toNat 0)) (f := fun x : Int => partS (ns.getD x.toNat 0) ((kinds cs).getD x.toNat [])) (ei_range (n := ((kinds cs).length : Int)) ((ev_lenL (ev_var (S2 none none))).is hll) (by omega) (by omega)) (by rw [rng_len]; omega) (by decide) (fun i x vx M' H' hi l rx => ?_) fun i x vx M' H' hi hp l rx => ?_).is (pos_by_place hT fun k n => partS n k)) fun v3 H2 e2 ok2 r2 => ?_
    · exact et_t (ev_B0 (ev_ixL (ev_var ((S1' none none).lc l)) (ev_var (Sl.me rx)) (hn x (List.mem_of_getElem? hi))) ev_int)
    · have hx := List.mem_of_getElem? hi
      obtain ⟨hm, h0, h1⟩ := hpos x hx hp
      have hkl := kind_len hm
      have hl3 := hT.pl.l3
      refine ev_join (ev_str (s := " ")) (ev_cat (ev_lst (ea_cons (ev_strI (ev_ixL (ev_var ((S1' none none).lc l)) (ev_var (Sl.me rx)) (hn x hx)) (log_lt (Int.le_of_lt h0) h1)) ea_nil) (by show 1 ≤ _; decide)) (ev_listT (xs := Tup.mk ((kinds cs).getD x.toNat [])) (ev_ixL (ev_var ((S2 none none).lc l)) (ev_var (Sl.me rx)) (hkk x hx)).tk) (by show 1 + ((kinds cs).getD x.toNat []).length ≤ _; omega)) ?_
      refine Nat.le_trans (join_le (n := 40) fun z hz => ?_) ?_
      · rcases List.mem_cons.mp hz with rfl | hz
        · exact strI_len (Int.le_of_lt h0) h1
        · have := (isWorth_len (hT.pl.kind hm z hz)).1; omega
      · have e : (" " : Str).length = 1 := by decide +kernel
        show (strI (ns.getD x.toNat 0) :: (kinds cs).getD x.toNat []).length * _ ≤ _
        rw [e, List.length_cons]; omega
    · have S3 : ∀ {H'}, Ex W [] H2 H' → Sl W M [some v, some u, some v2, some v3, none] H' 3 (tabParts cs ns) := fun e => ⟨v3, rfl, r2.up e⟩
      refine s_if ok2 (et_t (ev_eqD (ev_var (S3 Ex.refl)) (ev_lst (xs := ([] : List Str)) ea_nil (Nat.zero_le _)))) (fun hc H3 e3 ok3 => ?_) fun hc H3 e3 ok3 => ?_
      · have hc := of_decide_eq_true hc
        refine s_ret ok3 (ev_str (s := "nothing")) fun v9 H9 e9 r9 => k v9 H9 (((e1.trans e2).trans e3).trans e9) ?_
        unfold tabText
        rw [hc]; exact r9
      · have hc := of_decide_eq_false hc
        refine s_ret ok3 (ev_join (ev_str (s := ", ")) (ev_var (S3 e3)) ?_) fun v9 H9 e9 r9 => k v9 H9 (((e1.trans e2).trans e3).trans e9) ?_
        · refine Nat.le_trans (join_le (n := 200) fun z hz => ?_) ?_
          · obtain ⟨key, hk, rfl⟩ := List.mem_map.mp hz
            obtain ⟨h1, h3⟩ := hT.pos_mem hk
            exact part_len hT.pl h1 (Int.le_of_lt h3) (hb _ (hT.num_mem h1))
          · have e : (", " : Str).length = 2 := by decide +kernel
            rw [e]; omega
        · unfold tabText
          rw [if_pos (List.length_pos_iff.mpr hc)]; exact r9

abbrev s_law_made_table : Stmt := topS 46
theorem sc_law_made_table : FnScope ["_law_menu_here", "_law_plain", "_law_counts_here", "_law_choice"] ["_law_menu_here", "_law_plain", "_law_counts_here"] (defScope s_law_made_table) := ⟨rfl, rfl, rfl, by decide +kernel, rfl, by decide +kernel, by decide +kernel⟩

theorem ok_law_made_table {f : Addr} {fd : FuncData} (F : Fun K "_law_made_table" "_law_made_table" s_law_made_table f fd) (bt : Bt mg)
    (m_Table : MakC P w K mg base 3 (C "Table") "Table" ["self", "menu", "numbers"] (sp_Table_init K C))
    (c_law_numbers : Cal P w K mg base 2 "_law_numbers" ["_law_plain", "_law_counts_here"] (sp_law_numbers K C))
    (k_Table_counted : CmC P w K mg base 5 (C "Table") "Table" "counted" ["cls", "menu", "counts"] (sp_Table_counted K C))
    (k_Table_read : CmC P w K mg base 6 (C "Table") "Table" "read" ["cls", "menu", "text"] (sp_Table_read K C))
    (c_law_table_text : Cal P w K mg base 2 "_law_table_text" ["_law_plain", "_law_counts_here"] (sp_law_table_text K C)) :
    FnOk P w K mg base CX0 7 f fd ["_law_menu_here", "_law_plain", "_law_counts_here"] (sp_law_made_table K C) := by
  refine F.ok sc_law_made_table (fun vs H Q E h => ?_) (fun cdv A outer s H vs Q E hr h => ?_)
  · obtain ⟨W, M, v, u, w, x, y, z, _, _, rfl, _⟩ := h; rfl
  · obtain ⟨W, M, v, u, w, m, cs, ns, rfl, rfl, rfl, ok, r, rd, rn, ⟨hm, hT, hb⟩, k⟩ := h
    obtain ⟨mc⟩ := m
    cases (show mc = cs from hm)
    have S0 : ∀ o3, Sl W M [some v, some u, some w, o3] H 0 (Menu.mk cs) := fun _ => ⟨v, rfl, r⟩
    have S1 : ∀ o3, Sl W M [some v, some u, some w, o3] H 1 cs := fun _ => ⟨u, rfl, rd⟩
    have S2 : ∀ o3, Sl W M [some v, some u, some w, o3] H 2 ns := fun _ => ⟨w, rfl, rn⟩
    refine ⟨_, (pss_cons (ps_set (i := 3) sc_law_made_table.nd rfl (.inl rfl) (pe_op op_mod (pe_callTy cInt (by rfl) bt.int_ (by decide +kernel) (pa_cons (pe_callB (cr_sum rfl) (by rfl) bt.sum_ (by decide +kernel) (pa_cons (pv 2) pa_nil)) pa_nil)) pe_int))
      (pss_cons (ps_if (pt_cmpR op_eq (pv 3) pe_int (nomark _)) (pss_one (ps_ret (pe_make m_Table.mo m_Table.ok (by exact hr.mono (by decide)) (by rfl) m_Table.gl m_Table.b .nil pass0 (pa_cons (pv 0) (pa_cons (pe_call c_law_numbers.ok (by exact hr.mono (by decide)) (by rfl) c_law_numbers.gl c_law_numbers.kp c_law_numbers.b .nil pass0 (pa_cons (pv 1) (pa_cons (pv 2) pa_nil))) pa_nil))))) pss_nil)
      (pss_cons (ps_if (pt_cmpR op_eq (pv 3) pe_int (nomark _)) (pss_one (ps_ret (ClX.pe_cmeth (pe_glob (v := .ref (W.C "Table")) rfl k_Table_counted.gl rfl) k_Table_counted.rd k_Table_counted.cm (fnR_of k_Table_counted.ok k_Table_counted.b) (by exact hr.mono (by decide)) pass0 (pa_cons (pv 0) (pa_cons (pe_callTy cListOf (by rfl) bt.list_ (by decide +kernel) (pa_cons (pv 2) pa_nil)) pa_nil))))) pss_nil)
      (pss_one (ps_ret (ClX.pe_cmeth (pe_glob (v := .ref (W.C "Table")) rfl k_Table_read.gl rfl) k_Table_read.rd k_Table_read.cm (fnR_of k_Table_read.ok k_Table_read.b) (by exact hr.mono (by decide)) pass0 (pa_cons (pv 0) (pa_cons (pe_call c_law_table_text.ok (by exact hr.mono (by decide)) (by rfl) c_law_table_text.gl c_law_table_text.kp c_law_table_text.b .nil pass0 (pa_cons (pv 1) (pa_cons (pv 2) pa_nil))) pa_nil)))))))), ?_⟩
    refine s_set ok (x := ns.sum % 3) (ev_I (ev_intI (ev_sum (ev_var (S2 none)))) ev_int (by decide)) fun v3 H1 e1 ok1 r1 => ?_
    cases (show v3 = .int _ from r1)
    refine s_if ok1 (et_t (ev_eq (ev_vi (i := 3)) ev_int)) (fun hb' H2 e2 ok2 => ?_) fun _ H2 e2 ok2 => ?_
    · have e12 := e1.trans e2
      exact s_ret ok2 ((ev_make2 (x := Menu.mk cs) (y := numbersD cs ns) (ev_var ((S0 _).up e12)) (ev_f2 (ev_var ((S1 _).up e12)) (ev_var ((S2 _).up e12)) hT) (numbers_ok hT)).is (numbers_tab hT)) fun v9 H9 e9 r9 => k v9 H9 (e12.trans e9) r9
    · refine s_if ok2 (et_t (ev_eq (ev_vi (i := 3)) ev_int)) (fun hb' H3 e3 ok3 => ?_) fun _ H3 e3 ok3 => ?_
      · have e13 := (e1.trans e2).trans e3
        exact s_ret ok3 (ev_counted (cs := cs) (ev_var ((S0 _).up e13)) (ev_list (ev_var ((S2 _).up e13))).sq hT) fun v9 H9 e9 r9 => k v9 H9 (e13.trans e9) r9
      · have e13 := (e1.trans e2).trans e3
        exact s_ret ok3 (ev_tread (cs := cs) (ev_var ((S0 _).up e13)) (ev_f2 (ev_var ((S1 _).up e13)) (ev_var ((S2 _).up e13)) ⟨hT, fun n hn => Int.lt_trans (hb n hn) (by decide)⟩) hT hb) fun v9 H9 e9 r9 => k v9 H9 (e13.trans e9) r9

abbrev s_law_table_right : Stmt := topS 47
theorem sc_law_table_right : FnScope ["_law_bag_here", "_law_table", "_law_plain", "_law_counts_here", "_law_menu_here", "_law_kinds_here", "_law_question", "_law_told", "_law_there", "_law_pairs", "_law_one", "_law_other", "_law_kind", "_law_k"] ["_law_bag_here", "_law_table", "_law_plain", "_law_counts_here", "_law_menu_here"] (defScope s_law_table_right) := ⟨rfl, rfl, rfl, by decide +kernel, rfl, by decide +kernel, by decide +kernel⟩

theorem ok_law_table_right {f : Addr} {fd : FuncData} (F : Fun K "_law_table_right" "_law_table_right" s_law_table_right f fd) (bt : Bt mg)
    (c_law_kinds : Cal P w K mg base 1 "_law_kinds" ["_law_plain"] (sp_law_kinds K C))
    (c_law_mixed_Int : Cal P w K mg base 2 "_law_mixed" ["_law_bag_here", "_law_items"] (spMixed Int K C))
    (h_Table_counts : MetC P w K mg base 1 (C "Table") "counts" ["self"] (sp_Table_counts K C))
    (p_Table_rows : PropC P w K mg base 1 (C "Table") "rows" (sp_Table_rows K C))
    (ix_Table : OwnC P w K mg base 3 (C "Table") "__getitem__" ["self", "kind"] (sp_Table_getitem K C))
    (t_Table : ItrC P w K mg base 1 (C "Table") (sp_Table_iter K C))
    (h_Table_text : MetC P w K mg base 5 (C "Table") "text" ["self"] (sp_Table_text K C))
    (c_law_table_text : Cal P w K mg base 2 "_law_table_text" ["_law_plain", "_law_counts_here"] (sp_law_table_text K C))
    (k_Table_read : CmC P w K mg base 6 (C "Table") "Table" "read" ["cls", "menu", "text"] (sp_Table_read K C))
    (h_Table_same : MetC P w K mg base 3 (C "Table") "same" ["self", "other"] (sp_Table_same K C))
    (p_Table_menu : PropC P w K mg base 1 (C "Table") "menu" (sp_Table_menu K C))
    (h_Menu_same : MetC P w K mg base 1 (C "Menu") "same" ["self", "other"] (sp_Menu_same K C))
    (fk_ix_Table : PySem.W.fnIn K ix_Table.f = true) :
    FnOk P w K mg base CX0 7 f fd ["_law_bag_here", "_law_table", "_law_plain", "_law_counts_here", "_law_menu_here"] (sp_law_table_right K C) := by
  refine F.ok sc_law_table_right (fun vs H Q E h => ?_) (fun cdv A outer s H vs Q E hr h => ?_)
  · obtain ⟨W, M, v, u, w, x, t, cs, ns, m, _, _, rfl, _⟩ := h; rfl
  · obtain ⟨W, M, v, u, w, x, t, cs, ns, m, rfl, rfl, rfl, ok, r1, r2, r3, r4, ⟨rfl, hT, hb, hm⟩, k⟩ := h
    obtain ⟨mc⟩ := m
    cases (show mc = cs from hm)
    have hk12 := hT.k12
    have hn12 := hT.n12
    have hth : (there cs ns).length ≤ 12 := by have := hT.parts_len; unfold tabParts at this; rw [List.length_map] at this; unfold there; rw [List.length_map]; exact this
    have hb40 : ∀ n ∈ ns, n < 10 ^ 40 := fun n hn => Int.lt_trans (hb n hn) (by decide)
    have hn : ∀ x : Int, x ∈ rng ((kinds cs).length : Int) → atI ns x = some (ns.getD x.toNat 0) := fun x hx => atI_getD 0 (rng_mem.mp hx).1 (by have := (rng_mem.mp hx).2; rw [hT.len]; exact this)
    have hkk : ∀ x : Int, x ∈ rng ((kinds cs).length : Int) → atI ((kinds cs).map TupK.mk) x = some (TupK.mk ((kinds cs).getD x.toNat [])) := fun x hx => by
      obtain ⟨h0, h1⟩ := rng_mem.mp hx
      rw [atI_getD (TupK.mk []) h0 (by rw [List.length_map]; exact h1), List.getD_eq_getElem?_getD, List.getElem?_map, List.getD_eq_getElem?_getD]
      cases (kinds cs)[x.toNat]? <;> rfl
    have hll : (((kinds cs).map TupK.mk).length : Int) = (kinds cs).length := by rw [List.length_map]
    refine ⟨_, (pss_cons (ps_set (i := 5) sc_law_table_right.nd rfl (.inr rfl) (pe_call c_law_kinds.ok (by exact hr.mono (by decide)) (by rfl) c_law_kinds.gl c_law_kinds.kp c_law_kinds.b .nil pass0 (pa_cons (pv 2) pa_nil)))
      (pss_cons (ps_for PassesOwn.never rfl (pi_list (pe_call c_law_mixed_Int.ok (by exact hr.mono (by decide)) (by rfl) c_law_mixed_Int.gl c_law_mixed_Int.kp c_law_mixed_Int.b .nil pass0 (pa_cons (pv 0) (pa_cons (pe_lst (pa_cons pe_int (pa_cons pe_int (pa_cons pe_int (pa_cons pe_int (pa_cons pe_int pa_nil)))))) pa_nil)))) (pg_name (i := 6) sc_law_table_right.nd rfl (Or.inl rfl))
      (pss_cons (ps_if (pt_cmpR op_eq (pv 6) pe_int (nomark _)) (pss_cons (ps_set (i := 7) sc_law_table_right.nd rfl (.inl rfl) (pe_meth0 (pv 1) h_Table_counts.cl h_Table_counts.me h_Table_counts.ok (by exact hr.mono (by decide)) h_Table_counts.b .nil pass0))
      (pss_cons (ps_if (PW.pt (pw_or (pt_cmpR (op_neE (by exact hr.units)) (pv 7) (pv 3) (nomark _)) (pw_or1 (pt_cmpR op_ne (pe_prop (pv 1) p_Table_rows.cl p_Table_rows.pr p_Table_rows.ok (by exact hr.mono (by decide)) p_Table_rows.b .nil pass0 rfl) (pe_callB (cr_sum rfl) (by rfl) bt.sum_ (by decide +kernel) (pa_cons (pv 3) pa_nil)) (nomark _))))) (pss_one (ps_ret pe_bl)) pss_nil)
      (pss_one (ps_expr (pe_bm PySem.F.plainAttrs_list PySem.F.slot_list_append PySem.F.type_list_append mt_append (pv 7) (pa_cons pe_int pa_nil)))))) pss_nil)
      (pss_cons (ps_if (PW.pt (pw_and (pt_cmpR op_eq (pv 6) pe_int (nomark _)) (pw_and1 (pt_cmpR (op_neE (by exact hr.units)) (pe_lc (own := [("_law_kind", 12)]) (g := gName 12) rfl sc_law_table_right.nd (pi_list (pv 5)) (blkOk_by (own := [("_law_kind", 12)]) (N := ["_law_bag_here", "_law_table", "_law_plain", "_law_counts_here", "_law_menu_here", "_law_kinds_here", "_law_question", "_law_told", "_law_there", "_law_pairs", "_law_one", "_law_other", "_law_kind", "_law_k"]) (sc := defScope s_law_table_right) (by decide +kernel)) (fun _ _ _ _ _ => (pg_name (i := 12) sc_law_table_right.nd rfl (Or.inl rfl))) (fun _ _ _ _ _ => pts_nil) (fun _ _ _ _ _ => (PE.to (pe_ixOwn ix_Table (by exact hr.mono (by decide)) fk_ix_Table (pv 1) (pv 12) (fun _ _ => rfl)) (by dsimp only [Cx.blk] <;> rfl)))) (pv 3) (nomark _))))) (pss_one (ps_ret pe_bl)) pss_nil)
      (pss_cons (ps_if (pt_cmpR op_eq (pv 6) pe_int (nomark _)) (pss_cons (ps_setLc (i := 8) (own := [("_law_k", 13)]) (g := gName 13) rfl sc_law_table_right.nd rfl rfl (sw_true rfl rfl rfl (by decide +kernel)) (pi_range1 (by rfl) bt.range_ (pa_cons (pe_callB cLenS (by rfl) bt.len_ (by decide +kernel) (pa_cons (pv 5) pa_nil)) pa_nil)) (blkOk_by (own := [("_law_k", 13)]) (N := ["_law_bag_here", "_law_table", "_law_plain", "_law_counts_here", "_law_menu_here", "_law_kinds_here", "_law_question", "_law_told", "_law_there", "_law_pairs", "_law_one", "_law_other", "_law_kind", "_law_k"]) (sc := defScope s_law_table_right) (by decide +kernel)) (fun _ _ _ _ _ => (pg_name (i := 13) sc_law_table_right.nd rfl (Or.inl rfl))) (fun _ _ _ _ _ => (pts_one (PT.to (pt_cmpR op_gt (pe_ix ix_list (pv 3) (pv 13) (fun _ _ => rfl)) pe_int (nomark _)) (by dsimp only [Cx.blk] <;> rfl)))) (fun _ _ _ _ _ => (PE.to (pe_ix ix_list (pv 5) (pv 13) (fun _ _ => rfl)) (by dsimp only [Cx.blk] <;> rfl))))
      (pss_cons (ps_set (i := 9) sc_law_table_right.nd rfl (.inl rfl) pe_int)
      (pss_cons (ps_for PassesOwn.never rfl (pi_ownIt t_Table (by exact hr.mono (by decide)) (pv 1)) (pg_name (i := 10) sc_law_table_right.nd rfl (Or.inl rfl))
      (pss_one (ps_for PassesOwn.never rfl (pi_ownIt t_Table (by exact hr.mono (by decide)) (pv 1)) (pg_name (i := 11) sc_law_table_right.nd rfl (Or.inl rfl))
      (pss_one (ps_set (i := 9) sc_law_table_right.nd rfl (.inl rfl) (pe_op op_add (pv 9) (pe_callTy cInt (by rfl) bt.int_ (by decide +kernel) (pa_cons (pe_and (pe_cmpR (op_inE (by exact u65 hr)) (pv 10) (pv 8) (by rfl)) (pe_one (pe_cmpR (op_inE (by exact u65 hr)) (pv 11) (pv 8) (by rfl)))) pa_nil))))))))
      (pss_one (ps_if (PW.pt (pw_or (pt_cmpR (op_neE (by exact hr.units)) (pe_lc (own := [("_law_kind", 12)]) (g := gName 12) rfl sc_law_table_right.nd (pi_ownIt t_Table (by exact hr.mono (by decide)) (pv 1)) (blkOk_by (own := [("_law_kind", 12)]) (N := ["_law_bag_here", "_law_table", "_law_plain", "_law_counts_here", "_law_menu_here", "_law_kinds_here", "_law_question", "_law_told", "_law_there", "_law_pairs", "_law_one", "_law_other", "_law_kind", "_law_k"]) (sc := defScope s_law_table_right) (by decide +kernel)) (fun _ _ _ _ _ => (pg_name (i := 12) sc_law_table_right.nd rfl (Or.inl rfl))) (fun _ _ _ _ _ => pts_nil) (fun _ _ _ _ _ => (pv 12))) (pv 8) (nomark _)) (pw_or1 (pt_cmpR op_ne (pv 9) (pe_op op_pow (pe_callB cLenS (by rfl) bt.len_ (by decide +kernel) (pa_cons (pv 8) pa_nil)) pe_int) (nomark _))))) (pss_one (ps_ret pe_bl)) pss_nil))))) pss_nil)
      (pss_one (ps_if (PW.pt (pw_and (pt_cmpR op_eq (pv 6) pe_int (nomark _)) (pw_and1 (pt_cmpR op_ne (pe_meth0 (pv 1) h_Table_text.cl h_Table_text.me h_Table_text.ok (by exact hr.mono (by decide)) h_Table_text.b .nil pass0) (pe_call c_law_table_text.ok (by exact hr.mono (by decide)) (by rfl) c_law_table_text.gl c_law_table_text.kp c_law_table_text.b .nil pass0 (pa_cons (pv 2) (pa_cons (pv 3) pa_nil))) (nomark _))))) (pss_one (ps_ret pe_bl)) pss_nil))))))
      (pss_one (ps_ret (pe_and (pe_meth (pe_prop (pv 1) p_Table_menu.cl p_Table_menu.pr p_Table_menu.ok (by exact hr.mono (by decide)) p_Table_menu.b .nil pass0 rfl) h_Menu_same.cl h_Menu_same.me h_Menu_same.ok (by exact hr.mono (by decide)) h_Menu_same.b .nil pass0 (pa_cons (pv 4) pa_nil)) (pe_one (pe_meth (ClX.pe_cmeth (pe_glob (v := .ref (W.C "Table")) rfl k_Table_read.gl rfl) k_Table_read.rd k_Table_read.cm (fnR_of k_Table_read.ok k_Table_read.b) (by exact hr.mono (by decide)) pass0 (pa_cons (pv 4) (pa_cons (pe_meth0 (pv 1) h_Table_text.cl h_Table_text.me h_Table_text.ok (by exact hr.mono (by decide)) h_Table_text.b .nil pass0) pa_nil))) h_Table_same.cl h_Table_same.me h_Table_same.ok (by exact hr.mono (by decide)) h_Table_same.b .nil pass0 (pa_cons (pv 1) pa_nil)))))))), ?_⟩
    refine s_set ok (x := (kinds cs).map TupK.mk) (ev_f1 (ev_var (i := 2) (x := cs) ⟨u, rfl, r2⟩) hT.pl.few) fun v5 H1 e1 ok1 r5 => ?_
    refine for_r ok1 (evr_b1 bsr (ev_lst (xs := [0, 1, 2, 3, (0 : Int)]) (ea_cons ev_int (ea_cons ev_int (ea_cons ev_int (ea_cons ev_int (ea_cons ev_int ea_nil))))) (by decide)) (by decide)) fun qs vq H2 hqs e2 ok2 rq => ?_
    refine for_w ok2 (ei_list (ev_val rq)) (fun i σ' H' => Ex W [] H1 H' ∧ ∃ o6 o7 o8 o9 o10 o11, σ' = [some (.ref W.b), some v, some u, some w, some x, some v5, o6, o7, o8, o9, o10, o11, none, none]) (fun H' e => ⟨e2.trans e, none, none, none, none, none, none, rfl⟩) ?_ ?_
    · rintro i q vq' σ' H' hi ⟨e0, o6, o7, o8, o9, o10, o11, rfl⟩ ok' H'' e'' rq' N hN
      have ok'' := ok'.ex e''
      cases (show vq' = .int q from rq')
      have ee := e0.trans e''
      have e1e := e1.trans ee
      refine s_ifc (J := fun σ' H' => (∃ o7, σ' = [some (.ref W.b), some v, some u, some w, some x, some v5, some (.int q), o7, o8, o9, o10, o11, none, none]) ∧ Ex W [] H'' H' ∧ Ok W M H') ok'' (et_t (ev_eq (ev_vi (n := q)) ev_int)) ?_ ?_ (fun _ H4 e4 ok4 => ⟨⟨o7, rfl⟩, e4, ok4⟩)
      · rintro σ4 H4 ⟨⟨o7', rfl⟩, e4, ok4⟩
        have e14 := e1e.trans e4
        refine s_no ok4 (Et.is (et_and (et_t (ev_eq (ev_vi (n := q)) ev_int)) fun _ => et_t (ev_neD ((ev_lc (f := fun key : TupK => num cs ns key.l) (ei_list (ev_var (i := 5) (x := (kinds cs).map TupK.mk) ⟨v5, rfl, r5.up (ee.trans e4)⟩)) (by rw [List.length_map]; omega) (by decide) fun i key vk M' H' hi l rk => ev_ixOwn (o := Table.mk cs ns) (x := key) (ev_var (i := 1) (Sl.lc ⟨v, rfl, r1.up e14⟩ l)) (ev_var (Sl.me rk)) ⟨hT, by obtain ⟨y, hy, rfl⟩ := List.mem_map.mp (List.mem_of_getElem? hi); exact hy⟩).is (x' := ns) (by rw [List.map_map]; exact hT.map_num)) (ev_var (i := 3) (x := ns) ⟨w, rfl, r3.up e14⟩))) (c := false) (by simp)) fun H5 e5 ok5 => ?_
        have e15 := e14.trans e5
        refine s_ifc (J := fun σ' H' => (∃ o8 o9 o10 o11, σ' = [some (.ref W.b), some v, some u, some w, some x, some v5, some (.int q), o7', o8, o9, o10, o11, none, none]) ∧ Ex W [] H5 H' ∧ Ok W M H') ok5 (et_t (ev_eq (ev_vi (n := q)) ev_int)) ?_ ?_ (fun _ H6 e6 ok6 => ⟨⟨o8, o9, o10, o11, rfl⟩, e6, ok6⟩)
        · rintro σ6 H6 ⟨⟨o8', o9', o10', o11', rfl⟩, e6, ok6⟩
          have e16 := e15.trans e6
          refine s_no ok6 (Et.is (et_and (et_t (ev_eq (ev_vi (n := q)) ev_int)) fun _ => et_t (ev_ne (ev_m0 (o := Table.mk cs ns) (ev_var (i := 1) ⟨v, rfl, r1.up e16⟩) ⟨hT, hb40⟩ (by decide +kernel)) (ev_f2 (ev_var (i := 2) (x := cs) ⟨u, rfl, r2.up e16⟩) (ev_var (i := 3) (x := ns) ⟨w, rfl, r3.up e16⟩) ⟨hT, hb40⟩))) (c := false) (by simp)) fun H7 e7 ok7 => ?_
          exact hN _ _ ⟨((((e0.trans e'').trans e4).trans e5).trans e6).trans e7, _, _, _, _, _, _, rfl⟩ (((e4.trans e5).trans e6).trans e7).up
        · intro hJ hb' H6 e6 ok6
          have e16 := e15.trans e6
          have ee6 := ((ee.trans e4).trans e5).trans e6
          refine s_set ok6 (x := there cs ns) ((ev_lcf (p := fun x : Int => decide (0 < ns.getD x.toNat 0)) (f := fun x : Int => TupK.mk ((kinds cs).getD x.toNat [])) (ei_range (n := ((kinds cs).length : Int)) ((ev_lenL (ev_var (i := 5) (x := (kinds cs).map TupK.mk) ⟨v5, rfl, r5.up ee6⟩)).is hll) (by omega) (by omega)) (by rw [rng_len]; omega) (by decide) (fun i x vx M' H' hi l rx => et_t (ev_B0 (ev_ixL (ev_var (i := 3) (Sl.lc ⟨w, rfl, r3.up e16⟩ l)) (ev_var (Sl.me rx)) (hn x (List.mem_of_getElem? hi))) ev_int)) fun i x vx M' H' hi hp l rx => ev_ixL (ev_var (i := 5) (Sl.lc ⟨v5, rfl, r5.up ee6⟩ l)) (ev_var (Sl.me rx)) (hkk x (List.mem_of_getElem? hi))).is (pos_by_place hT fun k _ => TupK.mk k)) fun v8 H7 e7 ok7 r8 => ?_
          show tSeq (tAsg (tC (.int 0)) (gName 9)) _ _ _ _
          refine s_set ok7 (ev_int (n := 0)) fun v9 H8 e8 ok8 r9 => ?_
          cases (show v9 = .int 0 from r9)
          have e18 := (e16.trans e7).trans e8
          refine for_w ok8 (ei_ownIt (o := Table.mk cs ns) (g := fun t : Table => Tup.mk (there t.cols t.ns)) (ev_var (i := 1) ⟨v, rfl, r1.up e18⟩)) (fun i σ' H' => Ex W [] H8 H' ∧ ∃ o10 o11, σ' = [some (.ref W.b), some v, some u, some w, some x, some v5, some (.int q), o7', some v8, some (.int ((i : Int) * (there cs ns).length)), o10, o11, none, none]) (fun H' e => ⟨e, o10, o11, by simp⟩) ?_ ?_
          · rintro i1 one vo σ9 H9 hi1 ⟨e9, p10, p11, rfl⟩ ok9 H10 e10 ro N1 hN1
            have ok10 := ok9.ex e10
            have e110 := (e18.trans e9).trans e10
            refine for_w ok10 (ei_ownIt (o := Table.mk cs ns) (g := fun t : Table => Tup.mk (there t.cols t.ns)) (ev_var (i := 1) ⟨v, rfl, r1.up e110⟩)) (fun j σ' H' => Ex W [] H10 H' ∧ ∃ o11, σ' = [some (.ref W.b), some v, some u, some w, some x, some v5, some (.int q), o7', some v8, some (.int ((i1 : Int) * (there cs ns).length + j)), some vo, o11, none, none]) (fun H' e => ⟨e, p11, by simp⟩) ?_ ?_
            · rintro j other vt σ11 H11 hj ⟨e11, q11, rfl⟩ ok11 H12 e12 rt N2 hN2
              have ok12 := ok11.ex e12
              have e812 := ((((e8.trans e9).trans e10).trans e11).trans e12)
              have m1 := List.mem_of_getElem? hi1
              have m2 := List.mem_of_getElem? hj
              refine s_set ok12 (x := (i1 : Int) * (there cs ns).length + (j + 1 : Nat)) ((ev_I0 (ev_vi (i := 9)) (ev_intB (ev_and (ev_in (ev_var (i := 10) (x := one) ⟨vo, rfl, ro.up (e11.trans e12)⟩) (ev_var (i := 8) (x := there cs ns) ⟨v8, rfl, r8.up e812⟩)) fun _ => ev_in (ev_var (i := 11) (x := other) ⟨vt, rfl, rt⟩) (ev_var (i := 8) (x := there cs ns) ⟨v8, rfl, r8.up e812⟩)))).is (by rw [decide_eq_true m1, decide_eq_true m2]; simp; omega)) fun v13 H13 e13 ok13 r13 => ?_
              cases (show v13 = .int _ from r13)
              exact hN2 _ _ ⟨(e11.trans e12).trans e13, _, rfl⟩ e13.up
            · rintro σ11 H11 ⟨e11, q11, rfl⟩ ok11
              refine hN1 _ _ ⟨(e9.trans e10).trans e11, some vo, q11, ?_⟩ e11.up
              have : ((i1 : Int) * (there cs ns).length + ((Tup.mk (there cs ns)).l.length : Nat)) = ((i1 + 1 : Nat) : Int) * (there cs ns).length := by
                show (i1 : Int) * (there cs ns).length + ((there cs ns).length : Nat) = _
                rw [Int.natCast_add, Int.add_mul]; simp
              rw [← this]
          · rintro σ9 H9 ⟨e9, p10, p11, rfl⟩ ok9
            have e19 := e18.trans e9
            have e89 := e8.trans e9
            refine s_no ok9 (Et.is (et_or (et_t (ev_neD (ev_lc (f := fun key : TupK => key) (ei_ownIt (o := Table.mk cs ns) (g := fun t : Table => Tup.mk (there t.cols t.ns)) (ev_var (i := 1) ⟨v, rfl, r1.up e19⟩)) (by show (there cs ns).length ≤ _; omega) (by decide) fun i key vk M' H' hi l rk => ev_var (Sl.me rk)) (ev_var (i := 8) (x := there cs ns) ⟨v8, rfl, r8.up e89⟩))) fun _ => et_t (ev_ne (ev_vi (i := 9)) (ev_I (ev_lenL (ev_var (i := 8) (x := there cs ns) ⟨v8, rfl, r8.up e89⟩)) ev_int ⟨by decide, by decide, by omega⟩))) (c := false) ?_) fun H10 e10 ok10 => hJ _ _ ⟨⟨_, _, _, _, rfl⟩, (((e6.trans e7).trans e8).trans e9).trans e10, ok10⟩
            have h1 : (Tup.mk (there cs ns)).l.map (fun key : TupK => key) = there cs ns := List.map_id' _
            have h2 : (((Tup.mk (there cs ns)).l.length : Nat) : Int) * (there cs ns).length = ((there cs ns).length : Int) ^ (2 : Int).toNat := by
              show ((there cs ns).length : Int) * _ = _
              rw [show (2 : Int).toNat = 2 from rfl, Int.pow_succ, Int.pow_succ, Int.pow_zero, Int.one_mul]
            show (!decide ((Tup.mk (there cs ns)).l.map (fun key : TupK => key) = there cs ns) || !decide ((((Tup.mk (there cs ns)).l.length : Nat) : Int) * (there cs ns).length = ((there cs ns).length : Int) ^ (2 : Int).toNat)) = false
            rw [decide_eq_true h1, decide_eq_true h2]; rfl
      · intro hJ hb' H4 e4 ok4
        have e14 := e1e.trans e4
        refine s_accN ok4 (evn_m0 (o := Table.mk cs ns) (ev_var (i := 1) ⟨v, rfl, r1.up e14⟩) trivial (by decide +kernel)) (by show 7 < 14; decide) fun p H5 hp e5 l5 ok5 A5 => ?_
        have pm : p ∉ M := ok4.new_M hp
        have sub : ∀ a ∈ M, a ∈ p :: M := fun a h => by simp [h]
        have e15 := e14.trans e5
        refine s_no (ok5.sub sub) (Et.is (et_or (et_t (ev_neD (ev_var (A5.out sub pm)) (ev_var (i := 3) (x := ns) ⟨w, rfl, r3.up e15⟩))) fun _ => et_t (ev_ne (ev_prop (o := Table.mk cs ns) (ev_var (i := 1) ⟨v, rfl, r1.up e15⟩) trivial) (ev_sum (ev_var (i := 3) (x := ns) ⟨w, rfl, r3.up e15⟩)))) (c := false) (by simp)) fun H6 e6 ok6 => ?_
        refine s_app (N := M) (x := (1 : Int)) (ok5.ex e6) (A5.up e6) (by show ns.length ≤ _; omega) ev_int fun H7 e7 e7' ok7 A7 => ?_
        have e47 : Ex W [] H4 H7 := e7' H4 (e5.trans e6) ok4 hp
        exact hJ _ _ ⟨⟨_, rfl⟩, e4.trans e47, ok4.ex e47⟩
    · rintro σ' H' ⟨e0, o6, o7, o8, o9, o10, o11, rfl⟩ ok'
      have e10 := e1.trans e0
      dsimp only
      have T1 : Sl W M [some (.ref W.b), some v, some u, some w, some x, some v5, o6, o7, o8, o9, o10, o11, none, none] H' 1 (Table.mk cs ns) := ⟨v, rfl, r1.up e10⟩
      have T4 : Sl W M [some (.ref W.b), some v, some u, some w, some x, some v5, o6, o7, o8, o9, o10, o11, none, none] H' 4 (Menu.mk cs) := ⟨x, rfl, r4.up e10⟩
      have em : ∀ {E : XK}, Ev W M (tProp (W.C "Table") (sp_Table_menu W.K W.C) [] E (tVar 1)) [some (.ref W.b), some v, some u, some w, some x, some v5, o6, o7, o8, o9, o10, o11, none, none] H' (Menu.mk cs) := ev_prop (o := Table.mk cs ns) (f := fun t : Table => Menu.mk t.cols) (ev_var T1) trivial
      have et : ∀ {E : XK}, Ev W M (tMeth (W.C "Table") "text" (sp_Table_text W.K W.C) [] E (tVar 1) tNil) [some (.ref W.b), some v, some u, some w, some x, some v5, o6, o7, o8, o9, o10, o11, none, none] H' (tabText cs ns) := ev_m0 (o := Table.mk cs ns) (f := fun t : Table => tabText t.cols t.ns) (ev_var T1) ⟨hT, hb40⟩ (by decide +kernel)
      refine s_ret ok' (x := (decide (colsT ⟨cs⟩ = colsT ⟨cs⟩) && decide (ns = ns))) (ev_and (ev_m1 (o := Menu.mk cs) (x := Menu.mk cs) (f := fun m n : Menu => decide (colsT m = colsT n)) em (ev_var T4) trivial (by decide +kernel)) fun _ => ev_m1 (o := Table.mk cs ns) (x := Table.mk cs ns) (f := fun t u : Table => decide (t.ns = u.ns)) (ev_tread (cs := cs) (ns := ns) (ev_var T4) et hT hb) (ev_var T1) rfl (by decide +kernel)) fun v9 H9 e9 r9 => k v9 _ H9 ?_ (e10.trans e9) r9
      show (decide (colsT ⟨cs⟩ = colsT ⟨cs⟩) && decide (ns = ns)) = true
      simp

abbrev s_law_ahead : Stmt := topS 48
theorem sc_law_ahead : FnScope ["_law_one", "_law_other", "_law_place"] ["_law_one", "_law_other"] (defScope s_law_ahead) := ⟨rfl, rfl, rfl, by decide +kernel, rfl, by decide +kernel, by decide +kernel⟩

theorem ok_law_ahead {f : Addr} {fd : FuncData} (F : Fun K "_law_ahead" "_law_ahead" s_law_ahead f fd) (bt : Bt mg) :
    FnOk P w K mg base CX0 1 f fd ["_law_one", "_law_other"] (sp_law_ahead K C) := by
  refine F.ok sc_law_ahead (fun vs H Q E h => ?_) (fun cdv A outer s H vs Q E hr h => ?_)
  · obtain ⟨W, M, v, u, x, y, _, _, rfl, _⟩ := h; rfl
  · obtain ⟨W, M, v, u, xs, ys, rfl, rfl, rfl, ok, r, rd, ⟨hl, hz⟩, k⟩ := h
    have S0 : ∀ o2, Sl W M [some v, some u, o2] H 0 xs := fun _ => ⟨v, rfl, r⟩
    have S1 : ∀ o2, Sl W M [some v, some u, o2] H 1 ys := fun _ => ⟨u, rfl, rd⟩
    refine ⟨_, (pss_cons (ps_if (pt_cmpR op_ne (pe_callB (cr_sum rfl) (by rfl) bt.sum_ (by decide +kernel) (pa_cons (pv 0) pa_nil)) (pe_callB (cr_sum rfl) (by rfl) bt.sum_ (by decide +kernel) (pa_cons (pv 1) pa_nil)) (nomark _)) (pss_one (ps_ret (pe_cmpR op_lt (pe_callB (cr_sum rfl) (by rfl) bt.sum_ (by decide +kernel) (pa_cons (pv 0) pa_nil)) (pe_callB (cr_sum rfl) (by rfl) bt.sum_ (by decide +kernel) (pa_cons (pv 1) pa_nil)) (nomark _)))) pss_nil)
      (pss_cons (ps_for PassesOwn.never rfl (pi_range1 (by rfl) bt.range_ (pa_cons (pe_callB cLenS (by rfl) bt.len_ (by decide +kernel) (pa_cons (pv 0) pa_nil)) pa_nil)) (pg_name (i := 2) sc_law_ahead.nd rfl (Or.inl rfl))
      (pss_one (ps_if (pt_cmpR op_ne (pe_ix ix_list (pv 0) (pv 2) (fun _ _ => rfl)) (pe_ix ix_list (pv 1) (pv 2) (fun _ _ => rfl)) (nomark _)) (pss_one (ps_ret (pe_cmpR op_gt (pe_ix ix_list (pv 0) (pv 2) (fun _ _ => rfl)) (pe_ix ix_list (pv 1) (pv 2) (fun _ _ => rfl)) (nomark _)))) pss_nil)))
      (pss_one (ps_ret pe_bl)))), ?_⟩
    refine s_if ok (et_t (ev_ne (ev_sum (ev_var (S0 none))) (ev_sum (ev_var (S1 none))))) (fun hb H1 e1 ok1 => ?_) fun hb H1 e1 ok1 => ?_
    · have hne : ¬ xs.sum = ys.sum := fun e => by rw [e, decide_eq_true rfl] at hb; cases hb
      refine s_ret ok1 (ev_B0 (ev_sum (ev_var ((S0 none).up e1))) (ev_sum (ev_var ((S1 none).up e1)))) fun v9 H9 e9 r9 => k v9 H9 (e1.trans e9) ?_
      show Rep W M H9 v9 (aheadL xs ys)
      unfold aheadL
      rw [if_neg hne]; exact r9
    · have he : xs.sum = ys.sum := by
        by_cases e : xs.sum = ys.sum
        · exact e
        · rw [decide_eq_false e] at hb; cases hb
      have hA : aheadL xs ys = fdL xs ys := by unfold aheadL; rw [if_pos he]
      rw [hA] at k
      refine for_w ok1 (ei_range (ev_lenL (ev_var ((S0 none).up e1))) (by omega) (by omega)) (fun i σ' H' => Ex W [] H H' ∧ (∃ o2, σ' = [some v, some u, o2]) ∧ fdL xs ys = fdL (xs.drop i) (ys.drop i)) (fun H' e => ⟨e1.trans e, ⟨none, rfl⟩, rfl⟩) ?_ ?_
      · rintro i x vx σ' H' hi ⟨e0, ⟨o2, rfl⟩, hfd⟩ ok' H'' e'' rx N hN
        have ok'' := ok'.ex e''
        have c1 : i < xs.length := by
          have := (List.getElem?_eq_some_iff.mp hi).1
          rw [rng_len] at this; omega
        have c2 : i < ys.length := by omega
        have hx : x = (i : Int) := by
          rw [rng_at (by omega)] at hi
          exact (Option.some.inj hi).symm
        subst hx
        cases (show vx = .int i from rx)
        have a1 : atI xs (i : Int) = some xs[i] := atI_nat (List.getElem?_eq_getElem c1)
        have a2 : atI ys (i : Int) = some ys[i] := atI_nat (List.getElem?_eq_getElem c2)
        have ee := e0.trans e''
        rw [List.drop_eq_getElem_cons c1, List.drop_eq_getElem_cons c2] at hfd
        have hfd : fdL xs ys = if xs[i] = ys[i] then fdL (xs.drop (i + 1)) (ys.drop (i + 1)) else decide (ys[i] < xs[i]) := hfd
        refine s_if ok'' (et_t (ev_ne (ev_ixL (ev_var ((S0 _).up ee)) (ev_vi (i := 2)) a1) (ev_ixL (ev_var ((S1 _).up ee)) (ev_vi (i := 2)) a2))) (fun hb2 H3 e3 ok3 => ?_) fun hb2 H3 e3 ok3 => ?_
        · have hne : ¬ xs[i] = ys[i] := fun e => by rw [e, decide_eq_true rfl] at hb2; cases hb2
          rw [if_neg hne] at hfd
          have e03 := ee.trans e3
          refine s_ret ok3 (ev_B0 (ev_ixL (ev_var ((S0 _).up e03)) (ev_vi (i := 2)) a1) (ev_ixL (ev_var ((S1 _).up e03)) (ev_vi (i := 2)) a2)) fun v9 H9 e9 r9 => k v9 H9 (e03.trans e9) ?_
          rw [hfd]; exact r9
        · have he2 : xs[i] = ys[i] := by
            by_cases e : xs[i] = ys[i]
            · exact e
            · rw [decide_eq_false e] at hb2; cases hb2
          rw [if_pos he2] at hfd
          exact hN _ _ ⟨ee.trans e3, ⟨_, rfl⟩, hfd⟩ e3.up
      · rintro σ' H' ⟨e0, ⟨o2, rfl⟩, hfd⟩ ok'
        rw [rng_len, List.drop_of_length_le (by omega)] at hfd
        have hfd : fdL xs ys = false := hfd
        rw [hfd] at k
        dsimp only
        exact s_ret ok' ev_bl fun v9 H9 e9 r9 => k v9 H9 (e0.trans e9) r9

abbrev s_law_two_right : Stmt := topS 49
theorem sc_law_two_right : FnScope ["_law_bag_here", "_law_tables", "_law_plain", "_law_lots", "_law_menu_here", "_law_one", "_law_other", "_law_total", "_law_inside", "_law_rest", "_law_place"] ["_law_bag_here", "_law_tables", "_law_plain", "_law_lots", "_law_menu_here"] (defScope s_law_two_right) := ⟨rfl, rfl, rfl, by decide +kernel, rfl, by decide +kernel, by decide +kernel⟩

theorem ok_law_two_right {f : Addr} {fd : FuncData} (F : Fun K "_law_two_right" "_law_two_right" s_law_two_right f fd) (bt : Bt mg)
    (c_law_table_right : Cal P w K mg base 7 "_law_table_right" ["_law_bag_here", "_law_table", "_law_plain", "_law_counts_here", "_law_menu_here"] (sp_law_table_right K C))
    (o_Table_add : OwnC P w K mg base 6 (C "Table") (PySem.dunder Operator.Add.info.2) ["self", "other"] (sp_Table_add K C))
    (h_Table_same : MetC P w K mg base 3 (C "Table") "same" ["self", "other"] (sp_Table_same K C))
    (h_Table_within : MetC P w K mg base 3 (C "Table") "within" ["self", "other"] (sp_Table_within K C))
    (h_Table_ahead : MetC P w K mg base 4 (C "Table") "ahead" ["self", "other"] (sp_Table_ahead K C))
    (c_law_ahead : Cal P w K mg base 1 "_law_ahead" ["_law_one", "_law_other"] (sp_law_ahead K C))
    (o_Table_sub : OwnC P w K mg base 6 (C "Table") (PySem.dunder Operator.Sub.info.2) ["self", "other"] (sp_Table_sub K C))
    (sf_Table : PySem.W.selfFirst K (C "Table") = true) :
    FnOk P w K mg base CX0 8 f fd ["_law_bag_here", "_law_tables", "_law_plain", "_law_lots", "_law_menu_here"] (sp_law_two_right K C) := by
  refine F.ok sc_law_two_right (fun vs H Q E h => ?_) (fun cdv A outer s H vs Q E hr h => ?_)
  · obtain ⟨W, M, v, u, w, x, t, cs, ns, m, _, _, rfl, _⟩ := h; rfl
  · obtain ⟨W, M, v, u, w, x, ts, cs, lots, m, rfl, rfl, rfl, ok, r1, r2, r3, r4, ⟨hm, a, b, rfl, rfl, hA, hB, ha20, hb20⟩, k⟩ := h
    obtain ⟨mc⟩ := m
    cases (show mc = cs from hm)
    have la := hA.n12
    have hl : a.length = b.length := by rw [hA.len, hB.len]
    have hS := add_ok hA hB rfl
    have hs30 : ∀ n ∈ addL a b, n < 10 ^ 30 := fun n hn => Int.lt_trans (add_lt ha20 hb20 n hn) (by decide)
    have hb30 : ∀ n ∈ b, n < 10 ^ 30 := fun n hn => Int.lt_trans (hb20 n hn) (by decide)
    have at0 : ∀ {ω : Type} (p q : ω), atI [p, q] 0 = some p := fun _ _ => rfl
    have at1 : ∀ {ω : Type} (p q : ω), atI [p, q] 1 = some q := fun _ _ => rfl
    have hna : ∀ x : Int, x ∈ rng (a.length : Int) → atI a x = some (a.getD x.toNat 0) := fun x hx => atI_getD 0 (rng_mem.mp hx).1 (rng_mem.mp hx).2
    have hnb : ∀ x : Int, x ∈ rng (a.length : Int) → atI b x = some (b.getD x.toNat 0) := fun x hx => atI_getD 0 (rng_mem.mp hx).1 (by have := (rng_mem.mp hx).2; omega)
    refine ⟨_, (pss_cons (ps_asg (pv 3) (pg_lst rfl (pgs_cons (pg_name (i := 5) sc_law_two_right.nd rfl (Or.inr rfl)) (pgs_cons (pg_name (i := 6) sc_law_two_right.nd rfl (Or.inr rfl)) pgs_nil))))
      (pss_cons (ps_setLc (i := 7) (own := [("_law_place", 10)]) (g := gName 10) rfl sc_law_two_right.nd rfl rfl (sw_true rfl rfl rfl (by decide +kernel)) (pi_range1 (by rfl) bt.range_ (pa_cons (pe_callB cLenS (by rfl) bt.len_ (by decide +kernel) (pa_cons (pv 5) pa_nil)) pa_nil)) (blkOk_by (own := [("_law_place", 10)]) (N := ["_law_bag_here", "_law_tables", "_law_plain", "_law_lots", "_law_menu_here", "_law_one", "_law_other", "_law_total", "_law_inside", "_law_rest", "_law_place"]) (sc := defScope s_law_two_right) (by decide +kernel)) (fun _ _ _ _ _ => (pg_name (i := 10) sc_law_two_right.nd rfl (Or.inl rfl))) (fun _ _ _ _ _ => pts_nil) (fun _ _ _ _ _ => (PE.to (pe_op op_add (pe_ix ix_list (pv 5) (pv 10) (fun _ _ => rfl)) (pe_ix ix_list (pv 6) (pv 10) (fun _ _ => rfl))) (by dsimp only [Cx.blk] <;> rfl))))
      (pss_cons (ps_if (pt_not (pt_val (pe_call c_law_table_right.ok (by exact hr.mono (by decide)) (by rfl) c_law_table_right.gl c_law_table_right.kp c_law_table_right.b .nil pass0 (pa_cons (pv 0) (pa_cons (pe_op (op_binOwn o_Table_add sf_Table (by exact hr.mono (by decide))) (pe_ix ix_list (pv 1) pe_int (fun _ _ => rfl)) (pe_ix ix_list (pv 1) pe_int (fun _ _ => rfl))) (pa_cons (pv 2) (pa_cons (pv 7) (pa_cons (pv 4) pa_nil)))))))) (pss_one (ps_ret pe_bl)) pss_nil)
      (pss_cons (ps_set (i := 8) sc_law_two_right.nd rfl (.inl rfl) (pe_callB (cr_all rfl) (by rfl) bt.all_ (by decide +kernel) (pa_cons (pe_lc (own := [("_law_place", 10)]) (g := gName 10) rfl sc_law_two_right.nd (pi_range1 (by rfl) bt.range_ (pa_cons (pe_callB cLenS (by rfl) bt.len_ (by decide +kernel) (pa_cons (pv 5) pa_nil)) pa_nil)) (blkOk_by (own := [("_law_place", 10)]) (N := ["_law_bag_here", "_law_tables", "_law_plain", "_law_lots", "_law_menu_here", "_law_one", "_law_other", "_law_total", "_law_inside", "_law_rest", "_law_place"]) (sc := defScope s_law_two_right) (by decide +kernel)) (fun _ _ _ _ _ => (pg_name (i := 10) sc_law_two_right.nd rfl (Or.inl rfl))) (fun _ _ _ _ _ => pts_nil) (fun _ _ _ _ _ => (PE.to (pe_cmpR op_le (pe_ix ix_list (pv 5) (pv 10) (fun _ _ => rfl)) (pe_ix ix_list (pv 6) (pv 10) (fun _ _ => rfl)) (nomark _)) (by dsimp only [Cx.blk] <;> rfl)))) pa_nil)))
      (pss_cons (ps_if (PW.pt (pw_or (pt_cmpR op_ne (pe_meth (pe_ix ix_list (pv 1) pe_int (fun _ _ => rfl)) h_Table_within.cl h_Table_within.me h_Table_within.ok (by exact hr.mono (by decide)) h_Table_within.b .nil pass0 (pa_cons (pe_ix ix_list (pv 1) pe_int (fun _ _ => rfl)) pa_nil)) (pv 8) (nomark _)) (pw_or1 (pt_cmpR op_ne (pe_meth (pe_ix ix_list (pv 1) pe_int (fun _ _ => rfl)) h_Table_same.cl h_Table_same.me h_Table_same.ok (by exact hr.mono (by decide)) h_Table_same.b .nil pass0 (pa_cons (pe_ix ix_list (pv 1) pe_int (fun _ _ => rfl)) pa_nil)) (pe_cmpR (op_eqE (by exact hr.units)) (pv 5) (pv 6) (nomark _)) (nomark _))))) (pss_one (ps_ret pe_bl)) pss_nil)
      (pss_cons (ps_if (pt_cmpR op_ne (pe_meth (pe_ix ix_list (pv 1) pe_int (fun _ _ => rfl)) h_Table_ahead.cl h_Table_ahead.me h_Table_ahead.ok (by exact hr.mono (by decide)) h_Table_ahead.b .nil pass0 (pa_cons (pe_ix ix_list (pv 1) pe_int (fun _ _ => rfl)) pa_nil)) (pe_call c_law_ahead.ok (by exact hr.mono (by decide)) (by rfl) c_law_ahead.gl c_law_ahead.kp c_law_ahead.b .nil pass0 (pa_cons (pv 5) (pa_cons (pv 6) pa_nil))) (nomark _)) (pss_one (ps_ret pe_bl)) pss_nil)
      (pss_cons (ps_if (pt_not (pt_val (pe_call c_law_table_right.ok (by exact hr.mono (by decide)) (by rfl) c_law_table_right.gl c_law_table_right.kp c_law_table_right.b .nil pass0 (pa_cons (pv 0) (pa_cons (pe_op (op_binOwn o_Table_sub sf_Table (by exact hr.mono (by decide))) (pe_op (op_binOwn o_Table_add sf_Table (by exact hr.mono (by decide))) (pe_ix ix_list (pv 1) pe_int (fun _ _ => rfl)) (pe_ix ix_list (pv 1) pe_int (fun _ _ => rfl))) (pe_ix ix_list (pv 1) pe_int (fun _ _ => rfl))) (pa_cons (pv 2) (pa_cons (pv 6) (pa_cons (pv 4) pa_nil)))))))) (pss_one (ps_ret pe_bl)) pss_nil)
      (pss_cons (ps_if (pt_val (pv 8)) (pss_cons (ps_setLc (i := 9) (own := [("_law_place", 10)]) (g := gName 10) rfl sc_law_two_right.nd rfl rfl (sw_true rfl rfl rfl (by decide +kernel)) (pi_range1 (by rfl) bt.range_ (pa_cons (pe_callB cLenS (by rfl) bt.len_ (by decide +kernel) (pa_cons (pv 5) pa_nil)) pa_nil)) (blkOk_by (own := [("_law_place", 10)]) (N := ["_law_bag_here", "_law_tables", "_law_plain", "_law_lots", "_law_menu_here", "_law_one", "_law_other", "_law_total", "_law_inside", "_law_rest", "_law_place"]) (sc := defScope s_law_two_right) (by decide +kernel)) (fun _ _ _ _ _ => (pg_name (i := 10) sc_law_two_right.nd rfl (Or.inl rfl))) (fun _ _ _ _ _ => pts_nil) (fun _ _ _ _ _ => (PE.to (pe_op op_sub (pe_ix ix_list (pv 6) (pv 10) (fun _ _ => rfl)) (pe_ix ix_list (pv 5) (pv 10) (fun _ _ => rfl))) (by dsimp only [Cx.blk] <;> rfl))))
      (pss_one (ps_ret (pe_call c_law_table_right.ok (by exact hr.mono (by decide)) (by rfl) c_law_table_right.gl c_law_table_right.kp c_law_table_right.b .nil pass0 (pa_cons (pv 0) (pa_cons (pe_op (op_binOwn o_Table_sub sf_Table (by exact hr.mono (by decide))) (pe_ix ix_list (pv 1) pe_int (fun _ _ => rfl)) (pe_ix ix_list (pv 1) pe_int (fun _ _ => rfl))) (pa_cons (pv 2) (pa_cons (pv 9) (pa_cons (pv 4) pa_nil))))))))) pss_nil)
      (pss_one (ps_ret pe_bl)))))))))), ?_⟩
    refine s_set2L ok (ev_var (i := 3) (x := [a, b]) ⟨w, rfl, r3⟩) fun va vb H1 e1 ok1 ra rb => ?_
    have T1 : ∀ {o7 o8 o9 o10 : Option V} {H'}, Ex W [] H1 H' → Sl W M [some (.ref W.b), some v, some u, some w, some x, some va, some vb, o7, o8, o9, o10] H' 1 [Table.mk cs a, Table.mk cs b] := fun e => ⟨v, rfl, (r1.up e1).up e⟩
    have T2 : ∀ {o7 o8 o9 o10 : Option V} {H'}, Ex W [] H1 H' → Sl W M [some (.ref W.b), some v, some u, some w, some x, some va, some vb, o7, o8, o9, o10] H' 2 cs := fun e => ⟨u, rfl, (r2.up e1).up e⟩
    have T4 : ∀ {o7 o8 o9 o10 : Option V} {H'}, Ex W [] H1 H' → Sl W M [some (.ref W.b), some v, some u, some w, some x, some va, some vb, o7, o8, o9, o10] H' 4 (Menu.mk cs) := fun e => ⟨x, rfl, (r4.up e1).up e⟩
    have T5 : ∀ {o7 o8 o9 o10 : Option V} {H'}, Ex W [] H1 H' → Sl W M [some (.ref W.b), some v, some u, some w, some x, some va, some vb, o7, o8, o9, o10] H' 5 a := fun e => ⟨va, rfl, ra.up e⟩
    have T6 : ∀ {o7 o8 o9 o10 : Option V} {H'}, Ex W [] H1 H' → Sl W M [some (.ref W.b), some v, some u, some w, some x, some va, some vb, o7, o8, o9, o10] H' 6 b := fun e => ⟨vb, rfl, rb.up e⟩
    dsimp only
    refine s_set ok1 (x := addL a b) ((ev_lc (f := fun i : Int => a.getD i.toNat 0 + b.getD i.toNat 0) (ei_range (ev_lenL (ev_var (T5 Ex.refl))) (by omega) (by omega)) (by rw [rng_len]; omega) (by decide) fun i n vn M' H' hi l rn => ev_I0 (ev_ixL (ev_var ((T5 Ex.refl).lc l)) (ev_var (Sl.me rn)) (hna n (List.mem_of_getElem? hi))) (ev_ixL (ev_var ((T6 Ex.refl).lc l)) (ev_var (Sl.me rn)) (hnb n (List.mem_of_getElem? hi)))).is (zip_rng hl fun p q => p + q)) fun v7 H2 e2 ok2 r7 => ?_
    have e12 := e2
    refine s_no ok2 (et_not (b := true) (et_b ((evr_b4 bsr (ev_binOwn (o := Table.mk cs a) (o' := Table.mk cs b) (f := fun t u : Table => Table.mk t.cols (addL t.ns u.ns)) (ev_ixL (ev_var (T1 e12)) ev_int (at0 _ _)) (ev_ixL (ev_var (T1 e12)) ev_int (at1 _ _)) ⟨hA, hB, rfl⟩) (ev_var (T2 e12)) (ev_var (i := 7) (x := addL a b) ⟨v7, rfl, r7⟩) (ev_var (T4 e12)) ⟨rfl, hS, hs30, rfl⟩).ev (x := true) fun y hy => hy))) fun H3 e3 ok3 => ?_
    have e13 := e12.trans e3
    refine s_set ok3 (x := leL a b) ((ev_all (ev_lc (f := fun i : Int => decide (a.getD i.toNat 0 ≤ b.getD i.toNat 0)) (ei_range (ev_lenL (ev_var (T5 e13))) (by omega) (by omega)) (by rw [rng_len]; omega) (by decide) fun i n vn M' H' hi l rn => ev_B0 (ev_ixL (ev_var ((T5 e13).lc l)) (ev_var (Sl.me rn)) (hna n (List.mem_of_getElem? hi))) (ev_ixL (ev_var ((T6 e13).lc l)) (ev_var (Sl.me rn)) (hnb n (List.mem_of_getElem? hi))))).is (by unfold leL; rw [zip_rng hl fun p q => decide (p ≤ q)])) fun v8 H4 e4 ok4 r8 => ?_
    cases (show v8 = .bl _ from r8)
    have e14 := e13.trans e4
    have I8 : ∀ {H'}, Sl W M [some (.ref W.b), some v, some u, some w, some x, some va, some vb, some v7, some (.bl (leL a b)), none, none] H' 8 (leL a b) := ⟨_, rfl, rep_bl⟩
    refine s_no ok4 (Et.is (et_or (et_t (ev_ne (ev_m1 (o := Table.mk cs a) (x := Table.mk cs b) (f := fun t u : Table => leL t.ns u.ns) (ev_ixL (ev_var (T1 e14)) ev_int (at0 _ _)) (ev_ixL (ev_var (T1 e14)) ev_int (at1 _ _)) ⟨hA, rfl⟩ (by decide +kernel)) (ev_var I8))) fun _ => et_t (ev_ne (ev_m1 (o := Table.mk cs a) (x := Table.mk cs b) (f := fun t u : Table => decide (t.ns = u.ns)) (ev_ixL (ev_var (T1 e14)) ev_int (at0 _ _)) (ev_ixL (ev_var (T1 e14)) ev_int (at1 _ _)) rfl (by decide +kernel)) (ev_eqD (ev_var (T5 e14)) (ev_var (T6 e14))))) (c := false) (by simp)) fun H5 e5 ok5 => ?_
    have e15 := e14.trans e5
    refine s_no ok5 (Et.is (et_t (ev_ne (ev_m1 (o := Table.mk cs a) (x := Table.mk cs b) (f := fun t u : Table => ltK (keyT t) (keyT u)) (ev_ixL (ev_var (T1 e15)) ev_int (at0 _ _)) (ev_ixL (ev_var (T1 e15)) ev_int (at1 _ _)) ⟨hA, hB, rfl⟩ (by decide +kernel)) (ev_f2 (ev_var (T5 e15)) (ev_var (T6 e15)) ⟨hl, by omega⟩))) (c := false) (by rw [ltK_ahead hl]; simp)) fun H6 e6 ok6 => ?_
    have e16 := e15.trans e6
    refine s_no ok6 (et_not (b := true) (et_b ((evr_b4 bsr (ev_binOwn (o := Table.mk cs (addL a b)) (o' := Table.mk cs a) (f := fun t u : Table => Table.mk t.cols (subL t.ns u.ns)) (ev_binOwn (o := Table.mk cs a) (o' := Table.mk cs b) (f := fun t u : Table => Table.mk t.cols (addL t.ns u.ns)) (ev_ixL (ev_var (T1 e16)) ev_int (at0 _ _)) (ev_ixL (ev_var (T1 e16)) ev_int (at1 _ _)) ⟨hA, hB, rfl⟩) (ev_ixL (ev_var (T1 e16)) ev_int (at0 _ _)) ⟨hS, hA, rfl, le_add hA hB⟩) (ev_var (T2 e16)) (ev_var (T6 e16)) (ev_var (T4 e16)) ⟨by rw [sub_add hl], hB, hb30, rfl⟩).ev (x := true) fun y hy => hy))) fun H7 e7 ok7 => ?_
    have e17 := e16.trans e7
    refine s_if ok7 (et_b (ev_var I8)) (fun hle H8 e8 ok8 => ?_) fun _ H8 e8 ok8 => ?_
    · have e18 := e17.trans e8
      have hD := sub_ok hB hA rfl hle
      have hd30 : ∀ n ∈ subL b a, n < 10 ^ 30 := fun n hn => by
        unfold subL at hn
        obtain ⟨p, hp, rfl⟩ := List.mem_map.mp hn
        have h1 := hb30 _ (List.of_mem_zip hp).1
        have h2 := hA.nn _ (List.of_mem_zip hp).2
        omega
      refine s_set ok8 (x := subL b a) ((ev_lc (f := fun i : Int => b.getD i.toNat 0 - a.getD i.toNat 0) (ei_range (ev_lenL (ev_var (T5 e18))) (by omega) (by omega)) (by rw [rng_len]; omega) (by decide) fun i n vn M' H' hi l rn => ev_I0 (ev_ixL (ev_var ((T6 e18).lc l)) (ev_var (Sl.me rn)) (hnb n (List.mem_of_getElem? hi))) (ev_ixL (ev_var ((T5 e18).lc l)) (ev_var (Sl.me rn)) (hna n (List.mem_of_getElem? hi)))).is (by rw [hl]; exact zip_rng hl.symm fun p q => p - q)) fun v9 H9 e9 ok9 r9 => ?_
      have e19 := e18.trans e9
      dsimp only
      exact s_retR ok9 (evr_b4 bsr (ev_binOwn (o := Table.mk cs b) (o' := Table.mk cs a) (f := fun t u : Table => Table.mk t.cols (subL t.ns u.ns)) (ev_ixL (ev_var (T1 e19)) ev_int (at1 _ _)) (ev_ixL (ev_var (T1 e19)) ev_int (at0 _ _)) ⟨hB, hA, rfl, hle⟩) (ev_var (T2 e19)) (ev_var (i := 9) (x := subL b a) ⟨v9, rfl, r9⟩) (ev_var (T4 e19)) ⟨rfl, hD, hd30, rfl⟩) fun vr y H10 hy e10 rr => k vr y H10 hy (e1.trans (e19.trans e10)) rr
    · unfold tNext
      dsimp only
      exact s_ret ok8 (x := true) ev_bl fun vr H10 e10 rr => k vr true H10 rfl (e1.trans ((e17.trans e8).trans e10)) rr

abbrev s_law_menu_asked : Stmt := topS 50
theorem sc_law_menu_asked : FnScope ["_law_bag_here", "_law_plain", "_law_menu_here", "_law_kinds_here", "_law_most", "_law_lots", "_law_numbers_here", "_law_given", "_law_tables", "_law_one", "_law_other", "_law_great", "_law_k", "_law_kind"] ["_law_bag_here", "_law_plain", "_law_menu_here"] (defScope s_law_menu_asked) := ⟨rfl, rfl, rfl, by decide +kernel, rfl, by decide +kernel, by decide +kernel⟩

theorem ok_law_menu_asked {f : Addr} {fd : FuncData} (F : Fun K "_law_menu_asked" "_law_menu_asked" s_law_menu_asked f fd) (bt : Bt mg)
    (c_law_kinds : Cal P w K mg base 1 "_law_kinds" ["_law_plain"] (sp_law_kinds K C))
    (c_law_draw : Cal P w K mg base 1 "_law_draw" ["_law_bag_here", "_law_size"] (sp_law_draw K C))
    (c_law_counts : Cal P w K mg base 2 "_law_counts" ["_law_bag_here", "_law_many", "_law_most"] (sp_law_counts K C))
    (c_law_mixed_Int : Cal P w K mg base 2 "_law_mixed" ["_law_bag_here", "_law_items"] (spMixed Int K C))
    (c_law_numbers : Cal P w K mg base 2 "_law_numbers" ["_law_plain", "_law_counts_here"] (sp_law_numbers K C))
    (c_law_mixed_TupK : Cal P w K mg base 2 "_law_mixed" ["_law_bag_here", "_law_items"] (spMixed TupK K C))
    (k_Table_counted : CmC P w K mg base 5 (C "Table") "Table" "counted" ["cls", "menu", "counts"] (sp_Table_counted K C))
    (m_Table : MakC P w K mg base 3 (C "Table") "Table" ["self", "menu", "numbers"] (sp_Table_init K C))
    (c_law_made_table : Cal P w K mg base 7 "_law_made_table" ["_law_menu_here", "_law_plain", "_law_counts_here"] (sp_law_made_table K C))
    (c_law_made_menu : Cal P w K mg base 7 "_law_made_menu" ["_law_plain"] (sp_law_made_menu K C))
    (c_is_numbers : Cal P w K mg base 3 "is_numbers" ["menu", "value"] (sp_is_numbers K C))
    (c_law_mixed_IntInt : Cal P w K mg base 2 "_law_mixed" ["_law_bag_here", "_law_items"] (spMixed (Int × Int) K C))
    (c_law_two_right : Cal P w K mg base 8 "_law_two_right" ["_law_bag_here", "_law_tables", "_law_plain", "_law_lots", "_law_menu_here"] (sp_law_two_right K C))
    (c_law_table_right : Cal P w K mg base 7 "_law_table_right" ["_law_bag_here", "_law_table", "_law_plain", "_law_counts_here", "_law_menu_here"] (sp_law_table_right K C))
    (o_Table_add : OwnC P w K mg base 6 (C "Table") (PySem.dunder Operator.Add.info.2) ["self", "other"] (sp_Table_add K C))
    (h_Table_text : MetC P w K mg base 5 (C "Table") "text" ["self"] (sp_Table_text K C))
    (c_law_table_text : Cal P w K mg base 2 "_law_table_text" ["_law_plain", "_law_counts_here"] (sp_law_table_text K C))
    (h_Table_same : MetC P w K mg base 3 (C "Table") "same" ["self", "other"] (sp_Table_same K C))
    (p_Table_rows : PropC P w K mg base 1 (C "Table") "rows" (sp_Table_rows K C))
    (sf_Table : PySem.W.selfFirst K (C "Table") = true) :
    FnOk P w K mg base CX0 9 f fd ["_law_bag_here", "_law_plain", "_law_menu_here"] (sp_law_menu_asked K C) := by
  refine F.ok sc_law_menu_asked (fun vs H Q E h => ?_) (fun cdv A outer s H vs Q E hr h => ?_)
  · obtain ⟨W, v, u, cs, _, _, rfl, _⟩ := h; rfl
  · obtain ⟨W, v, u, cs, rfl, rfl, rfl, ok, r1, r2, hP, hp12, k⟩ := h
    have hat : ∀ n : Int, 0 ≤ n ∧ n < 3 → ∃ x, atI [4, 1000, (10 : Int) ^ (4 : Int).toNat] n = some x ∧ (1 ≤ x ∧ x ≤ 1000000) := fun n hn => by
      have : n = 0 ∨ n = 1 ∨ n = 2 := by omega
      rcases this with rfl | rfl | rfl
      · exact ⟨4, rfl, by decide⟩
      · exact ⟨1000, rfl, by decide⟩
      · exact ⟨10 ^ (4 : Int).toNat, rfl, by decide⟩
    have hk12 : (kinds cs).length ≤ 12 := by have := kinds_prod cs; omega
    have hkn : ((kinds cs).map TupK.mk).length = (kinds cs).length := by rw [List.length_map]
    have at0 : ∀ {ω : Type} (p q r : ω), atI [p, q, r] 0 = some p := fun _ _ _ => rfl
    have at1 : ∀ {ω : Type} (p q r : ω), atI [p, q, r] 1 = some q := fun _ _ _ => rfl
    have at2 : ∀ {ω : Type} (p q r : ω), atI [p, q, r] 2 = some r := fun _ _ _ => rfl
    refine ⟨_, (pss_cons (ps_set (i := 3) sc_law_menu_asked.nd rfl (.inr rfl) (pe_call c_law_kinds.ok (by exact hr.mono (by decide)) (by rfl) c_law_kinds.gl c_law_kinds.kp c_law_kinds.b .nil pass0 (pa_cons (pv 1) pa_nil)))
      (pss_cons (ps_set (i := 4) sc_law_menu_asked.nd rfl (.inr rfl) (pe_ix ix_list (pe_lst (pa_cons pe_int (pa_cons pe_int (pa_cons (pe_op op_pow pe_int pe_int) pa_nil)))) (pe_call c_law_draw.ok (by exact hr.mono (by decide)) (by rfl) c_law_draw.gl c_law_draw.kp c_law_draw.b .nil pass0 (pa_cons (pv 0) (pa_cons pe_int pa_nil))) (fun _ _ => rfl)))
      (pss_cons (ps_setLc (i := 5) (own := [("_law_k", 12)]) (g := gName 12) rfl sc_law_menu_asked.nd rfl rfl (sw_true rfl rfl rfl (by decide +kernel)) (pi_range1 (by rfl) bt.range_ (pa_cons pe_int pa_nil)) (blkOk_by (own := [("_law_k", 12)]) (N := ["_law_bag_here", "_law_plain", "_law_menu_here", "_law_kinds_here", "_law_most", "_law_lots", "_law_numbers_here", "_law_given", "_law_tables", "_law_one", "_law_other", "_law_great", "_law_k", "_law_kind"]) (sc := defScope s_law_menu_asked) (by decide +kernel)) (fun _ _ _ _ _ => (pg_name (i := 12) sc_law_menu_asked.nd rfl (Or.inl rfl))) (fun _ _ _ _ _ => pts_nil) (fun _ _ _ _ _ => (PE.to (pe_call c_law_counts.ok (by exact hr.mono (by decide)) (by rfl) c_law_counts.gl c_law_counts.kp c_law_counts.b .nil pass0 (pa_cons (pv 0) (pa_cons (pe_callB cLenS (by rfl) bt.len_ (by decide +kernel) (pa_cons (pv 3) pa_nil)) (pa_cons (pv 4) pa_nil)))) (by dsimp only [Cx.blk] <;> rfl))))
      (pss_cons (ps_expr (pe_bm PySem.F.plainAttrs_list PySem.F.slot_list_append PySem.F.type_list_append mt_append (pv 5) (pa_cons (pe_call c_law_mixed_Int.ok (by exact hr.mono (by decide)) (by rfl) c_law_mixed_Int.gl c_law_mixed_Int.kp c_law_mixed_Int.b .nil pass0 (pa_cons (pv 0) (pa_cons (pe_ix ix_list (pv 5) pe_int (fun _ _ => rfl)) pa_nil))) pa_nil)))
      (pss_cons (ps_set (i := 6) sc_law_menu_asked.nd rfl (.inr rfl) (pe_call c_law_numbers.ok (by exact hr.mono (by decide)) (by rfl) c_law_numbers.gl c_law_numbers.kp c_law_numbers.b .nil pass0 (pa_cons (pv 1) (pa_cons (pe_ix ix_list (pv 5) pe_int (fun _ _ => rfl)) pa_nil))))
      (pss_cons (ps_set (i := 7) sc_law_menu_asked.nd rfl (.inl rfl) (pe_lst (pa_cons (pe_callTy (cr_dictPairs rfl (by exact hr.units)) (by rfl) bt.dict_ (by decide +kernel) (pa_cons (pe_lc (own := [("_law_kind", 13)]) (g := gName 13) rfl sc_law_menu_asked.nd (pi_list (pe_call c_law_mixed_TupK.ok (by exact hr.mono (by decide)) (by rfl) c_law_mixed_TupK.gl c_law_mixed_TupK.kp c_law_mixed_TupK.b .nil pass0 (pa_cons (pv 0) (pa_cons (pe_callTy (cListDT rfl) (by rfl) bt.list_ (by decide +kernel) (pa_cons (pv 6) pa_nil)) pa_nil)))) (blkOk_by (own := [("_law_kind", 13)]) (N := ["_law_bag_here", "_law_plain", "_law_menu_here", "_law_kinds_here", "_law_most", "_law_lots", "_law_numbers_here", "_law_given", "_law_tables", "_law_one", "_law_other", "_law_great", "_law_k", "_law_kind"]) (sc := defScope s_law_menu_asked) (by decide +kernel)) (fun _ _ _ _ _ => (pg_name (i := 13) sc_law_menu_asked.nd rfl (Or.inl rfl))) (fun _ _ _ _ _ => pts_nil) (fun _ _ _ _ _ => (pe_tup (pa_cons (pv 13) (pa_cons (pe_dget (by exact u1 hr) (pv 6) (pv 13) (fun _ _ => rfl)) pa_nil))))) pa_nil)) (pa_cons (pe_callTy cListOf (by rfl) bt.list_ (by decide +kernel) (pa_cons (pe_ix ix_list (pv 5) pe_int (fun _ _ => rfl)) pa_nil)) pa_nil))))
      (pss_cons (ps_set (i := 8) sc_law_menu_asked.nd rfl (.inl rfl) (pe_lst (pa_cons (pe_make m_Table.mo m_Table.ok (by exact hr.mono (by decide)) (by rfl) m_Table.gl m_Table.b .nil pass0 (pa_cons (pv 2) (pa_cons (pe_ix ix_list (pv 7) pe_int (fun _ _ => rfl)) pa_nil))) (pa_cons (ClX.pe_cmeth (pe_glob (v := .ref (W.C "Table")) rfl k_Table_counted.gl rfl) k_Table_counted.rd k_Table_counted.cm (fnR_of k_Table_counted.ok k_Table_counted.b) (by exact hr.mono (by decide)) pass0 (pa_cons (pv 2) (pa_cons (pe_ix ix_list (pv 7) pe_int (fun _ _ => rfl)) pa_nil))) pa_nil))))
      (pss_cons (ps_expr (pe_bm PySem.F.plainAttrs_list PySem.F.slot_list_append PySem.F.type_list_append mt_append (pv 8) (pa_cons (pe_call c_law_made_table.ok (by exact hr.mono (by decide)) (by rfl) c_law_made_table.gl c_law_made_table.kp c_law_made_table.b .nil pass0 (pa_cons (pe_call c_law_made_menu.ok (by exact hr.mono (by decide)) (by rfl) c_law_made_menu.gl c_law_made_menu.kp c_law_made_menu.b .nil pass0 (pa_cons (pv 1) pa_nil)) (pa_cons (pv 1) (pa_cons (pe_ix ix_list (pv 5) pe_int (fun _ _ => rfl)) pa_nil)))) pa_nil)))
      (pss_cons (ps_if (PW.pt (pw_or (pt_not (pt_val (pe_call c_is_numbers.ok (by exact hr.mono (by decide)) (by rfl) c_is_numbers.gl c_is_numbers.kp c_is_numbers.b .nil pass0 (pa_cons (pv 2) (pa_cons (pe_ix ix_list (pv 7) pe_int (fun _ _ => rfl)) pa_nil))))) (pw_or1 (pt_cmpR (op_neG (by exact u65 hr)) (pv 7) (pe_lst (pa_cons (pe_call c_law_numbers.ok (by exact hr.mono (by decide)) (by rfl) c_law_numbers.gl c_law_numbers.kp c_law_numbers.b .nil pass0 (pa_cons (pv 1) (pa_cons (pe_ix ix_list (pv 5) pe_int (fun _ _ => rfl)) pa_nil))) (pa_cons (pe_ix ix_list (pv 5) pe_int (fun _ _ => rfl)) pa_nil))) (nomark _))))) (pss_one (ps_ret pe_bl)) pss_nil)
      (pss_cons (ps_expr (pe_bm0 PySem.F.plainAttrs_dict PySem.F.slot_dict_clear PySem.F.type_dict_clear mt_clearT (pe_ix ix_list (pv 7) pe_int (fun _ _ => rfl))))
      (pss_cons (ps_expr (pe_bm PySem.F.plainAttrs_list PySem.F.slot_list_append PySem.F.type_list_append mt_append (pe_ix ix_list (pv 7) pe_int (fun _ _ => rfl)) (pa_cons pe_int pa_nil)))
      (pss_cons (ps_for PassesOwn.never rfl (pi_list (pe_call c_law_mixed_IntInt.ok (by exact hr.mono (by decide)) (by rfl) c_law_mixed_IntInt.gl c_law_mixed_IntInt.kp c_law_mixed_IntInt.b .nil pass0 (pa_cons (pv 0) (pa_cons (pe_lst (pa_cons (pe_tup (pa_cons pe_int (pa_cons pe_int pa_nil))) (pa_cons (pe_tup (pa_cons pe_int (pa_cons pe_int pa_nil))) (pa_cons (pe_tup (pa_cons pe_int (pa_cons pe_int pa_nil))) (pa_cons (pe_tup (pa_cons pe_int (pa_cons pe_int pa_nil))) (pa_cons (pe_tup (pa_cons pe_int (pa_cons pe_int pa_nil))) pa_nil)))))) pa_nil)))) (pg_tup rfl (pgs_cons (pg_name (i := 9) sc_law_menu_asked.nd rfl (Or.inl rfl)) (pgs_cons (pg_name (i := 10) sc_law_menu_asked.nd rfl (Or.inl rfl)) pgs_nil)))
      (pss_cons (ps_if (pt_not (pt_val (pe_call c_law_two_right.ok (by exact hr.mono (by decide)) (by rfl) c_law_two_right.gl c_law_two_right.kp c_law_two_right.b .nil pass0 (pa_cons (pv 0) (pa_cons (pe_lst (pa_cons (pe_ix ix_list (pv 8) (pv 9) (fun _ _ => rfl)) (pa_cons (pe_ix ix_list (pv 8) (pv 10) (fun _ _ => rfl)) pa_nil))) (pa_cons (pv 1) (pa_cons (pe_lst (pa_cons (pe_ix ix_list (pv 5) (pv 9) (fun _ _ => rfl)) (pa_cons (pe_ix ix_list (pv 5) (pv 10) (fun _ _ => rfl)) pa_nil))) (pa_cons (pv 2) pa_nil)))))))) (pss_one (ps_ret pe_bl)) pss_nil)
      (pss_one (ps_if (pt_not (pt_val (pe_call c_law_table_right.ok (by exact hr.mono (by decide)) (by rfl) c_law_table_right.gl c_law_table_right.kp c_law_table_right.b .nil pass0 (pa_cons (pv 0) (pa_cons (pe_ix ix_list (pv 8) (pv 9) (fun _ _ => rfl)) (pa_cons (pv 1) (pa_cons (pe_ix ix_list (pv 5) (pv 9) (fun _ _ => rfl)) (pa_cons (pv 2) pa_nil)))))))) (pss_one (ps_ret pe_bl)) pss_nil))))
      (pss_cons (ps_set (i := 11) sc_law_menu_asked.nd rfl (.inl rfl) (ClX.pe_cmeth (pe_glob (v := .ref (W.C "Table")) rfl k_Table_counted.gl rfl) k_Table_counted.rd k_Table_counted.cm (fnR_of k_Table_counted.ok k_Table_counted.b) (by exact hr.mono (by decide)) pass0 (pa_cons (pv 2) (pa_cons (pe_op op_rep (pe_lst (pa_cons (pe_op op_sub (pe_op op_pow pe_int pe_int) pe_int) pa_nil)) (pe_callB cLenS (by rfl) bt.len_ (by decide +kernel) (pa_cons (pv 3) pa_nil))) pa_nil))))
      (pss_cons (ps_if (pt_cmpR op_ne (pe_meth0 (pe_op (op_binOwn o_Table_add sf_Table (by exact hr.mono (by decide))) (pv 11) (pv 11)) h_Table_text.cl h_Table_text.me h_Table_text.ok (by exact hr.mono (by decide)) h_Table_text.b .nil pass0) (pe_call c_law_table_text.ok (by exact hr.mono (by decide)) (by rfl) c_law_table_text.gl c_law_table_text.kp c_law_table_text.b .nil pass0 (pa_cons (pv 1) (pa_cons (pe_op op_rep (pe_lst (pa_cons (pe_op op_sub (pe_op op_mul pe_int (pe_op op_pow pe_int pe_int)) pe_int) pa_nil)) (pe_callB cLenS (by rfl) bt.len_ (by decide +kernel) (pa_cons (pv 3) pa_nil))) pa_nil))) (nomark _)) (pss_one (ps_ret pe_bl)) pss_nil)
      (pss_one (ps_ret (pe_and (pe_cmpR op_eq (pe_prop (pe_make m_Table.mo m_Table.ok (by exact hr.mono (by decide)) (by rfl) m_Table.gl m_Table.b .nil pass0 (pa_cons (pv 2) (pa_cons pe_dnewT pa_nil))) p_Table_rows.cl p_Table_rows.pr p_Table_rows.ok (by exact hr.mono (by decide)) p_Table_rows.b .nil pass0 rfl) pe_int (nomark _)) (pe_one (pe_meth (ClX.pe_cmeth (pe_glob (v := .ref (W.C "Table")) rfl k_Table_counted.gl rfl) k_Table_counted.rd k_Table_counted.cm (fnR_of k_Table_counted.ok k_Table_counted.b) (by exact hr.mono (by decide)) pass0 (pa_cons (pv 2) (pa_cons (pe_callTy cTupOf (by rfl) bt.tuple_ (by decide +kernel) (pa_cons (pe_ix ix_list (pv 5) pe_int (fun _ _ => rfl)) pa_nil)) pa_nil))) h_Table_same.cl h_Table_same.me h_Table_same.ok (by exact hr.mono (by decide)) h_Table_same.b .nil pass0 (pa_cons (pe_ix ix_list (pv 8) pe_int (fun _ _ => rfl)) pa_nil)))))))))))))))))))), ?_⟩
    refine s_set ok (x := (kinds cs).map TupK.mk) (ev_f1 (ev_var (i := 1) (x := cs) ⟨v, rfl, r1⟩) hP.few) fun v3 H1 e1 ok1 r3 => ?_
    refine s_setR ok1 (evr_ixL (ev_lst (ea_cons ev_int (ea_cons ev_int (ea_cons (ev_I ev_int ev_int (by refine ⟨?_, ?_, ?_⟩ <;> decide)) ea_nil))) (by show 3 ≤ 1000000; decide)) (evr_b1 (bsr (i := 0)) (ev_int (n := 3)) (by decide)) hat) fun v4 most H2 hmost e2 ok2 r4 => ?_
    cases (show v4 = .int most from r4)
    refine s_lcP (P := fun i (ys : List (List Int)) => ys.length = i ∧ ∀ l ∈ ys, (l.length : Int) = (((kinds cs).map TupK.mk).length : Int) ∧ ∀ n ∈ l, 0 ≤ n ∧ n ≤ most) ok2 (ei_range (ev_int (n := 2)) (by decide) (by decide)) (by rw [rng_len]; decide) (by decide) ⟨rfl, fun l h => by cases h⟩ ?_ fun L lots H3 hlots hL e3 ok3 r5 => ?_
    · intro i x vx M' H' ys hx le ok' rx hPy
      refine (evr_b2 (bsr (i := 0)) (ev_lenL (ev_var (i := 3) (x := (kinds cs).map TupK.mk) ⟨v3, rfl, (r3.up e2).le le⟩)) (ev_vi (i := 4)) ⟨by omega, by omega, hmost.1, hmost.2⟩).imp fun l hl => ⟨by rw [List.length_append, hPy.1]; rfl, fun z hz => ?_⟩
      rcases List.mem_append.mp hz with hz | hz
      · exact hPy.2 z hz
      · rw [List.mem_singleton.mp hz]; exact hl
    obtain ⟨hlen, hall⟩ := hlots
    obtain ⟨a, b, rfl⟩ : ∃ a b, lots = [a, b] := by
      match lots, hlen with
      | [a, b], _ => exact ⟨a, b, rfl⟩
    have ha := hall a (by simp)
    have hb := hall b (by simp)
    have hA : OkT cs a := ⟨hP, hp12, by omega, fun n hn => (ha.2 n hn).1⟩
    have hB : OkT cs b := ⟨hP, hp12, by omega, fun n hn => (hb.2 n hn).1⟩
    have ba : ∀ n ∈ a, n < 10 ^ 20 := fun n hn => Int.lt_of_le_of_lt (Int.le_trans (ha.2 n hn).2 hmost.2) (by decide)
    have bb : ∀ n ∈ b, n < 10 ^ 20 := fun n hn => Int.lt_of_le_of_lt (Int.le_trans (hb.2 n hn).2 hmost.2) (by decide)
    refine s_appLL (P := fun c : List Int => c.Perm a) ok2 hL e3 ok3 rfl r5 (evr_b1 (bsr (i := 0)) (ev_ixL (ev_var (i := 5) (x := [a, b]) ⟨.ref L, rfl, r5⟩) ev_int rfl) (by omega)) fun c H4 hc e4 ok4 r5 => ?_
    have hC : OkT cs c := ⟨hP, hp12, by rw [hc.length_eq]; exact hA.len, fun n hn => hA.nn n (hc.mem_iff.mp hn)⟩
    have bc : ∀ n ∈ c, n < 10 ^ 20 := fun n hn => ba n (hc.mem_iff.mp hn)
    have e04 := (e1.trans e2).trans e4
    refine s_set ok4 (x := numbersD cs a) (ev_f2 (ev_var (i := 1) (x := cs) ⟨v, rfl, r1.up e04⟩) (ev_ixL (ev_var (i := 5) (x := [a, b, c]) ⟨.ref L, rfl, r5⟩) ev_int (at0 _ _ _)) hA) fun v6 H5 e5 ok5 r6 => ?_
    have hN := numbers_ok hA
    have e05 := e04.trans e5
    dsimp only
    refine s_given (P := fun x : Di => x.kvs.Perm (numbersD cs a).kvs) (ys := b) ok5 ?_ ?_ fun d p g x H6 hx hd hp hg e6 ok6 hd6 hp6 hg6 => ?_
    · refine EvD.imp (evd_pairs (evr_lcR (P := fun xs : List TupK => xs.Perm ((numbersD cs a).kvs.map fun p => TupK.mk p.1)) (f := fun k : TupK => (k, ((numbersD cs a).kvs.lookup k.l).getD 0)) ?_ ?_ ?_ ?_) ?_) ?_
      · exact evr_b1 (bsr (i := 0)) (ev_listD (ev_var (i := 6) (x := numbersD cs a) ⟨v6, rfl, r6⟩)) (by rw [List.length_map]; exact hN.len)
      · intro xs hx
        rw [hx.length_eq, List.length_map]; exact Nat.le_trans hN.len (by decide)
      · decide
      · intro xs i x vx M' H' hxs hx l rx
        refine ev_pair (ev_var (Sl.me rx)) (ev_dixI (x := numbersD cs a) (ev_var (i := 6) ⟨v6, rfl, r6.le l⟩) (ev_var (Sl.me rx)) ?_)
        obtain ⟨q, hq, e⟩ := List.mem_map.mp (hxs.mem_iff.mp (List.mem_of_getElem? hx))
        have : q.1 = x.l := by rw [← e]
        rw [← this, mem_lookup hN.nd (show (q.1, q.2) ∈ _ from hq)]; rfl
      · rintro ps ⟨xs, hxs, rfl⟩
        rw [List.map_map]
        have e : (xs.map (Prod.fst ∘ fun k : TupK => (k, ((numbersD cs a).kvs.lookup k.l).getD 0))) = xs := List.map_id _
        rw [e, hxs.nodup_iff]
        exact nodup_tk hN.nd
      · rintro y ⟨ps, ⟨xs, hxs, rfl⟩, rfl⟩
        exact mixed_dict hN.nd hxs
    · exact evn_list (ev_ixL (ev_var (i := 5) (x := [a, b, c]) ⟨.ref L, rfl, r5.up e5⟩) ev_int (at1 _ _ _))
    have e06 := e05.trans e6
    have hok : OkD ⟨cs⟩ x := perm_okD hN hx
    have htab : tabOf ⟨cs⟩ x = ⟨cs, a⟩ := (perm_tab hN hx).trans (numbers_tab hA)
    have nd := ok5.new_b hd
    have np := ok5.new_b hp
    have ng := ok5.new_b hg
    refine s_lst2 (x := Table.mk cs a) (y := Table.mk cs b) ok6 ((ev_make2 (f := tabOf) (ev_var (i := 2) (x := Menu.mk cs) ⟨u, rfl, r2.up e06⟩) (ev_raw (i := 7) (x := x) rfl hg6 ng rfl (rep_di hd6 nd (by simp))) hok).is htab) (ev_counted (xs := Sq.mk b) (ev_var (i := 2) (x := Menu.mk cs) ⟨u, rfl, r2.up e06⟩) ((ev_raw (i := 7) (x := b) rfl hg6 ng rfl (rep_lst hp6 np (by simp) toV_paired)).sq) hB) fun vt1 vt2 Lt H7 e7 ok7 rt1 rt2 hLt => ?_
    have e78 : Ex W [] H7 (upd H7 Lt (.lst [vt1, vt2])) := Ex.new hLt
    have ok8 := ok7.ex e78
    have rT : Rep W [] (upd H7 Lt (.lst [vt1, vt2])) (.ref Lt) [Table.mk cs a, Table.mk cs b] := rep_lst upd_same (ok7.new_b hLt) (by simp) (.cons (rt1.up e78) (.cons (rt2.up e78) .nil))
    have e58 := (e6.trans e7).trans e78
    have e08 := e05.trans e58
    refine s_appFy (x := Table.mk cs c) ok7 hLt e78 ok8 rfl rT (by show 2 ≤ 1000; decide) (ev_f3 (ev_f1 (ev_var (i := 1) (x := cs) ⟨v, rfl, r1.up e08⟩) ⟨hP, hp12⟩) (ev_var (i := 1) (x := cs) ⟨v, rfl, r1.up e08⟩) (ev_ixL (ev_var (i := 5) (x := [a, b, c]) ⟨.ref L, rfl, r5.up (e5.trans e58)⟩) ev_int (at2 _ _ _)) ⟨rfl, hC, fun n hn => Int.lt_trans (bc n hn) (by decide)⟩) fun H9 e9 ok9 rT => ?_
    have e69 := e7.trans e9
    have e59 := e6.trans e69
    have e09 := e05.trans e59
    have hg9 := e69.keep _ _ ng (by simp) hg6
    have hd9 := e69.keep _ _ nd (by simp) hd6
    have hp9 := e69.keep _ _ np (by simp) hp6
    have nLd : d ≠ Lt := fun z => by have := e7.keep _ _ nd (by simp) hd6; rw [z, hLt] at this; cases this
    have nLp : p ≠ Lt := fun z => by have := e7.keep _ _ np (by simp) hp6; rw [z, hLt] at this; cases this
    refine s_no ok9 (Et.is (et_or (et_not (et_b (ev_f2 (f := fun (_ : Menu) (_ : Di) => true) (ev_var (i := 2) (x := Menu.mk cs) ⟨u, rfl, r2.up e09⟩) (ev_raw (i := 7) (x := x) rfl hg9 ng rfl (rep_di hd9 nd (by simp))) hok))) fun _ => et_t (ev_neG (i := 7) (x' := numbersD cs a) ok9 rfl hg9 hd9 hp9 ng nd np (ev_f2 (ev_var (i := 1) (x := cs) ⟨v, rfl, r1.up e09⟩) (ev_ixL (ev_var (i := 5) (x := [a, b, c]) ⟨.ref L, rfl, r5.up (e5.trans e59)⟩) ev_int (at0 _ _ _)) hA) (ev_ixL (ev_var (i := 5) (x := [a, b, c]) ⟨.ref L, rfl, r5.up (e5.trans e59)⟩) ev_int (at1 _ _ _)) hx.length_eq fun z hz => hx.mem_iff.mp hz)) (c := false) rfl) fun H10 e10 ok10 => ?_
    have hg10 := e10.keep _ _ ng (by simp) hg9
    have hd10 := e10.keep _ _ nd (by simp) hd9
    have hp10 := e10.keep _ _ np (by simp) hp9
    have ngd : g ≠ d := fun z => by rw [z, hd10] at hg10; cases hg10
    have npd : p ≠ d := fun z => by rw [z, hd10] at hp10; cases hp10
    refine s_clear ok5 hd (e59.trans e10) rfl hg10 hd10 fun e11 => ?_
    have hp11 : upd H10 d (.dT []) p = some (.lst (b.map V.int)) := by rw [upd_ne npd]; exact hp10
    refine s_app1 ok5 hp e11 rfl (by rw [upd_ne ngd]; exact hg10) hp11 (by rw [List.length_map]; have := hB.n12; omega) fun e12 => ?_
    have rT := ((rT.up e10).fyL (u := .dT []) hd10 not_fyD nLd).fyL (u := .lst (b.map V.int ++ [.int 5])) hp11 not_fyL nLp
    generalize upd (upd H10 d (.dT [])) p (.lst (b.map V.int ++ [.int 5])) = HZ at e12 rT ⊢
    have okZ := ok5.ex e12
    have e0Z := e05.trans e12
    have e4Z := e5.trans e12
    have look : ∀ n : Int, n = 0 ∨ n = 1 ∨ n = 2 → ∃ ns, atI [Table.mk cs a, Table.mk cs b, Table.mk cs c] n = some ⟨cs, ns⟩ ∧ atI [a, b, c] n = some ns ∧ OkT cs ns ∧ ∀ n ∈ ns, n < 10 ^ 20 := fun n hn => by
      rcases hn with rfl | rfl | rfl
      · exact ⟨a, rfl, rfl, hA, ba⟩
      · exact ⟨b, rfl, rfl, hB, bb⟩
      · exact ⟨c, rfl, rfl, hC, bc⟩
    refine for_r okZ (evr_b1 (bsr (i := 0)) (ev_lst (xs := [(0, 1), (1, 0), (0, 2), (0, 0), ((2 : Int), (1 : Int))]) (ea_cons (ev_pair ev_int ev_int) (ea_cons (ev_pair ev_int ev_int) (ea_cons (ev_pair ev_int ev_int) (ea_cons (ev_pair ev_int ev_int) (ea_cons (ev_pair ev_int ev_int) ea_nil))))) (by decide)) (by decide)) fun qs vq HQ hqs eQ okQ rq => ?_
    have e0Q := e0Z.trans eQ
    have e4Q := e4Z.trans eQ
    refine for_w okQ (ei_list (fun H3 e3 ok3 Q q => q vq H3 Ex.refl (rq.up e3))) (fun i σ' H' => Ex W [] HQ H' ∧ ∃ o9 o10, σ' = [some (.ref W.b), some v, some u, some v3, some (.int most), some (.ref L), some v6, some (.ref g), some (.ref Lt), o9, o10, none, none, none]) (fun H' e => ⟨e, none, none, rfl⟩) ?_ ?_
    · rintro i ⟨x1, x2⟩ vx σ' H' hi ⟨e0, o9, o10, rfl⟩ ok' H'' e'' rx N hN
      have hm : (x1, x2) ∈ [(0, 1), (1, 0), (0, 2), (0, 0), ((2 : Int), (1 : Int))] := hqs.mem_iff.mp (List.mem_of_getElem? hi)
      have h12 : (x1 = 0 ∨ x1 = 1 ∨ x1 = 2) ∧ (x2 = 0 ∨ x2 = 1 ∨ x2 = 2) := by
        simp only [List.mem_cons, List.not_mem_nil, or_false, Prod.mk.injEq] at hm
        omega
      obtain ⟨n1, t1, l1, k1, b1⟩ := look x1 h12.1
      obtain ⟨n2, t2, l2, k2, b2⟩ := look x2 h12.2
      refine gPair_rd rx fun w1 w2 q1 q2 => ?_
      cases (show w1 = .int x1 from q1)
      cases (show w2 = .int x2 from q2)
      have ok'' := ok'.ex e''
      have eQ'' := e0.trans e''
      have X1 : ∀ {H3}, Ex W [] H'' H3 → Sl W [] [some (.ref W.b), some v, some u, some v3, some (.int most), some (.ref L), some v6, some (.ref g), some (.ref Lt), some (.int x1), some (.int x2), none, none, none] H3 1 cs := fun e => ⟨v, rfl, r1.up ((e0Q.trans eQ'').trans e)⟩
      have X2 : ∀ {H3}, Ex W [] H'' H3 → Sl W [] [some (.ref W.b), some v, some u, some v3, some (.int most), some (.ref L), some v6, some (.ref g), some (.ref Lt), some (.int x1), some (.int x2), none, none, none] H3 2 (Menu.mk cs) := fun e => ⟨u, rfl, r2.up ((e0Q.trans eQ'').trans e)⟩
      have X5 : ∀ {H3}, Ex W [] H'' H3 → Sl W [] [some (.ref W.b), some v, some u, some v3, some (.int most), some (.ref L), some v6, some (.ref g), some (.ref Lt), some (.int x1), some (.int x2), none, none, none] H3 5 [a, b, c] := fun e => ⟨_, rfl, r5.up ((e4Q.trans eQ'').trans e)⟩
      have X8 : ∀ {H3}, Ex W [] H'' H3 → Sl W [] [some (.ref W.b), some v, some u, some v3, some (.int most), some (.ref L), some v6, some (.ref g), some (.ref Lt), some (.int x1), some (.int x2), none, none, none] H3 8 [Table.mk cs a, Table.mk cs b, Table.mk cs c] := fun e => ⟨_, rfl, rT.up ((eQ.trans eQ'').trans e)⟩
      dsimp only
      refine s_no ok'' (et_not (b := true) (et_b ((evr_b4 (bsr (i := 0)) (ev_lst (xs := [Table.mk cs n1, Table.mk cs n2]) (ea_cons (ev_ixL (ev_var (X8 Ex.refl)) (ev_vi (i := 9)) t1) (ea_cons (ev_ixL (ev_var (X8 Ex.refl)) (ev_vi (i := 10)) t2) ea_nil)) (by show 2 ≤ 1000000; decide)) (ev_var (X1 Ex.refl)) (ev_lst (xs := [n1, n2]) (ea_cons (ev_ixL (ev_var (X5 Ex.refl)) (ev_vi (i := 9)) l1) (ea_cons (ev_ixL (ev_var (X5 Ex.refl)) (ev_vi (i := 10)) l2) ea_nil)) (by show 2 ≤ 1000000; decide)) (ev_var (X2 Ex.refl)) ⟨rfl, n1, n2, rfl, rfl, k1, k2, b1, b2⟩).ev (x := true) fun y hy => hy))) fun H13 e13 ok13 => ?_
      refine s_no ok13 (et_not (b := true) (et_b ((evr_b4 (bsr (i := 0)) (ev_ixL (ev_var (X8 e13)) (ev_vi (i := 9)) t1) (ev_var (X1 e13)) (ev_ixL (ev_var (X5 e13)) (ev_vi (i := 9)) l1) (ev_var (X2 e13)) ⟨rfl, k1, fun n hn => Int.lt_trans (b1 n hn) (by decide), rfl⟩).ev (x := true) fun y hy => hy))) fun H14 e14 ok14 => ?_
      exact hN _ _ ⟨(eQ''.trans e13).trans e14, _, _, rfl⟩ (e13.trans e14)
    · rintro σ' H' ⟨e0, o9, o10, rfl⟩ ok'
      have e0' := e0Q.trans e0
      have e4' := e4Q.trans e0
      dsimp only
      have erep : ∀ {m : Int} {tm : TE} {σ : L2.St} {H3 : Hp}, Ex W [] H' H3 → σ[3]? = some (some v3) → Ev W [] tm σ H3 m → Ev W [] (tOp rRep (tLst (tCons tm tNil)) (tCB (rLenS W.K) (tCons (tVar 3) tNil))) σ H3 (List.replicate (kinds cs).length m) := fun e hs hm => (ev_rep (ev_lst (ea_cons hm ea_nil) (by show 1 ≤ 1000000; decide)) (ev_lenL (ev_var (i := 3) (x := (kinds cs).map TupK.mk) ⟨v3, hs, r3.up (((e2.trans e4).trans e4').trans e)⟩)) (by omega) (by omega) (by show 1 ≤ 100; decide)).is (by rw [Int.toNat_natCast, List.length_map]; exact rep_flat _)
      have hG : OkT cs (List.replicate (kinds cs).length (10 ^ 30 - 1)) := okT_rep hP hp12 (by decide)
      have hG2 : OkT cs (List.replicate (kinds cs).length (2 * 10 ^ 30 - 2)) := okT_rep hP hp12 (by decide)
      refine s_set ok' (x := Table.mk cs (List.replicate (kinds cs).length (10 ^ 30 - 1))) (ev_counted (xs := Sq.mk (List.replicate (kinds cs).length (10 ^ 30 - 1))) (ev_var (i := 2) (x := Menu.mk cs) ⟨u, rfl, r2.up e0'⟩) ((erep Ex.refl rfl ((ev_I0 (m := 10 ^ (30 : Int).toNat) (n := 1) (g := fun i j => i - j) (ev_I (m := 10) (n := 30) (C := CPow) (g := fun i j : Int => i ^ j.toNat) ev_int ev_int (by refine ⟨?_, ?_, ?_⟩ <;> decide)) ev_int).is (x' := 10 ^ 30 - 1) rfl)).sq) hG) fun v11 H15 e15 ok15 r11 => ?_
      have S11 : ∀ {H3}, Ex W [] H15 H3 → Sl W [] [some (.ref W.b), some v, some u, some v3, some (.int most), some (.ref L), some v6, some (.ref g), some (.ref Lt), o9, o10, some v11, none, none] H3 11 (Table.mk cs (List.replicate (kinds cs).length (10 ^ 30 - 1))) := fun e => ⟨v11, rfl, r11.up e⟩
      have hsum : addL (List.replicate (kinds cs).length (10 ^ 30 - 1)) (List.replicate (kinds cs).length (10 ^ 30 - 1)) = List.replicate (kinds cs).length (2 * 10 ^ 30 - 2) := add_rep _
      have hb40 : ∀ n ∈ List.replicate (kinds cs).length (2 * 10 ^ 30 - 2 : Int), n < 10 ^ 40 := fun n hn => by rw [List.eq_of_mem_replicate hn]; decide
      dsimp only
      refine s_no ok15 (Et.is (b := !decide (tabText cs (List.replicate (kinds cs).length (2 * 10 ^ 30 - 2)) = tabText cs (List.replicate (kinds cs).length (2 * 10 ^ 30 - 2)))) (et_t (ev_ne ?_ ?_)) (by simp)) fun H16 e16 ok16 => ?_
      · refine ev_m0 (o := Table.mk cs (List.replicate (kinds cs).length (2 * 10 ^ 30 - 2))) (f := fun t : Table => tabText t.cols t.ns) ?_ ⟨hG2, hb40⟩ (by decide +kernel)
        exact (ev_binOwn (o := Table.mk cs (List.replicate (kinds cs).length (10 ^ 30 - 1))) (o' := Table.mk cs (List.replicate (kinds cs).length (10 ^ 30 - 1))) (f := fun t u : Table => Table.mk t.cols (addL t.ns u.ns)) (ev_var (S11 Ex.refl)) (ev_var (S11 Ex.refl)) ⟨hG, hG, rfl⟩).is (by show Table.mk cs (addL _ _) = _; rw [hsum])
      · refine ev_f2 (f := tabText) (ev_var (i := 1) (x := cs) ⟨v, rfl, r1.up (e0'.trans e15)⟩) ?_ ⟨hG2, hb40⟩
        exact erep e15 rfl ((ev_I0 (m := 2 * 10 ^ (30 : Int).toNat) (n := 2) (g := fun i j => i - j) (ev_I (C := CMul) (m := 2) (n := 10 ^ (30 : Int).toNat) (g := fun i j => i * j) ev_int (ev_I (m := 10) (n := 30) (C := CPow) (g := fun i j : Int => i ^ j.toNat) ev_int ev_int (by refine ⟨?_, ?_, ?_⟩ <;> decide)) (.inl (by decide))) ev_int).is (x' := 2 * 10 ^ 30 - 2) rfl)
      have e06 := (e0'.trans e15).trans e16
      have e46 := (e4'.trans e15).trans e16
      have hE : OkD ⟨cs⟩ ⟨[]⟩ := ⟨hP, hp12, List.nodup_nil, (fun p hp => by cases hp), Nat.zero_le _⟩
      have h0 : (tabOf ⟨cs⟩ ⟨[]⟩).ns.sum = 0 := by
        have : ∀ l : List (List Str), (l.map fun _ => (0 : Int)).sum = 0 := fun l => by
          induction l with
          | nil => rfl
          | cons k t ih => rw [List.map_cons, List.sum_cons, ih]; rfl
        exact this (kinds cs)
      unfold tNext
      dsimp only
      refine s_ret ok16 (x := (decide ((tabOf ⟨cs⟩ ⟨[]⟩).ns.sum = 0) && decide (a = a))) (ev_and ?_ fun _ => ?_) fun vr H17 e17 rr => ?_
      · refine ev_eq (x := (tabOf ⟨cs⟩ ⟨[]⟩).ns.sum) (y := 0) ?_ ev_int
        refine ev_prop (o := tabOf ⟨cs⟩ ⟨[]⟩) (f := fun t : Table => t.ns.sum) ?_ trivial
        exact ev_make2 (f := tabOf) (ev_var (i := 2) (x := Menu.mk cs) ⟨u, rfl, r2.up e06⟩) ev_dnew hE
      · refine ev_m1 (o := Table.mk cs a) (x := Table.mk cs a) (f := fun t u : Table => decide (t.ns = u.ns)) ?_ ?_ rfl (by decide +kernel)
        · exact ev_counted (xs := Sq.mk a) (ev_var (i := 2) (x := Menu.mk cs) ⟨u, rfl, r2.up e06⟩) ((ev_tuple (ev_ixL (ev_var (i := 5) (x := [a, b, c]) ⟨.ref L, rfl, r5.up e46⟩) ev_int (at0 _ _ _))).sqT) hA
        · exact ev_ixL (ev_var (i := 8) (x := [Table.mk cs a, Table.mk cs b, Table.mk cs c]) ⟨.ref Lt, rfl, rT.up (((eQ.trans e0).trans e15).trans e16)⟩) ev_int (at0 _ _ _)
      rw [decide_eq_true h0, decide_eq_true rfl] at rr
      cases (show vr = .bl true from rr)
      exact k H17 (e06.trans e17)

abbrev s_law : Stmt := topS 51
theorem sc_law : FnScope ["_law_script", "_law_bag_here", "_law_plains", "_law_name", "_law_worths", "_law_word", "_law_menus", "_law_turn", "_law_plain"] ["_law_script"] (defScope s_law) := ⟨rfl, rfl, rfl, by decide +kernel, rfl, by decide +kernel, by decide +kernel⟩

theorem ok_law {f : Addr} {fd : FuncData} (F : Fun K "law" "law" s_law f fd) (bt : Bt mg)
    (c_law_bag : Cal P w K mg base 1 "_law_bag" ["_law_script"] (sp_law_bag K C))
    (c_law_menu : Cal P w K mg base 3 "_law_menu" ["_law_bag_here", "_law_most"] (sp_law_menu K C))
    (c_law_draw : Cal P w K mg base 1 "_law_draw" ["_law_bag_here", "_law_size"] (sp_law_draw K C))
    (c_law_made_menu : Cal P w K mg base 7 "_law_made_menu" ["_law_plain"] (sp_law_made_menu K C))
    (c_law_menu_asked : Cal P w K mg base 9 "_law_menu_asked" ["_law_bag_here", "_law_plain", "_law_menu_here"] (sp_law_menu_asked K C)) :
    FnOk P w K mg base CX0 10 f fd ["_law_script"] (sp_law K C) := by
  refine F.ok sc_law (fun vs H Q E h => ?_) (fun cdv A outer s H vs Q E hr h => ?_)
  · obtain ⟨a, ns, rfl, _⟩ := h; rfl
  · obtain ⟨a, ns, rfl, hS, hlen, k⟩ := h
    refine ⟨_, (pss_cons (ps_set (i := 1) sc_law.nd rfl (.inl rfl) (pe_call c_law_bag.ok (by exact hr.mono (by decide)) (by rfl) c_law_bag.gl c_law_bag.kp c_law_bag.b .nil pass0 (pa_cons (pv 0) pa_nil)))
      (pss_cons (ps_set (i := 2) sc_law.nd rfl (.inl rfl) (pe_lst (pa_cons (pe_call c_law_menu.ok (by exact hr.mono (by decide)) (by rfl) c_law_menu.gl c_law_menu.kp c_law_menu.b .nil pass0 (pa_cons (pv 1) (pa_cons pe_int pa_nil))) (pa_cons (pe_call c_law_menu.ok (by exact hr.mono (by decide)) (by rfl) c_law_menu.gl c_law_menu.kp c_law_menu.b .nil pass0 (pa_cons (pv 1) (pa_cons pe_int pa_nil))) pa_nil))))
      (pss_cons (ps_if (pt_cmpR op_eq (pe_call c_law_draw.ok (by exact hr.mono (by decide)) (by rfl) c_law_draw.gl c_law_draw.kp c_law_draw.b .nil pass0 (pa_cons (pv 1) (pa_cons pe_int pa_nil))) pe_int (nomark _)) (pss_cons (ps_asg (pe_ix ix_list (pe_ix ix_list (pv 2) pe_int (fun _ _ => rfl)) pe_int (fun _ _ => rfl)) (pg_tup rfl (pgs_cons (pg_name (i := 3) sc_law.nd rfl (Or.inl rfl)) (pgs_cons (pg_name (i := 4) sc_law.nd rfl (Or.inl rfl)) pgs_nil))))
      (pss_cons (ps_set (i := 5) sc_law.nd rfl (.inl rfl) (pe_ix ix_list (pe_lst (pa_cons pe_str (pa_cons pe_str pa_nil))) (pe_call c_law_draw.ok (by exact hr.mono (by decide)) (by rfl) c_law_draw.gl c_law_draw.kp c_law_draw.b .nil pass0 (pa_cons (pv 1) (pa_cons pe_int pa_nil))) (fun _ _ => rfl)))
      (pss_one (ps_if (pt_cmpR (op_notInE (by exact u65 hr)) (pv 5) (pv 4) (by rfl)) (pss_one (ps_asg (pe_op op_cat (pe_lst (pa_cons (pe_tup (pa_cons (pv 3) (pa_cons (pe_op op_cat (pe_lst (pa_cons (pv 5) pa_nil)) (pe_slice sl_list (pv 4) (po_some pe_int) po_none)) pa_nil))) pa_nil)) (pe_slice sl_list (pe_ix ix_list (pv 2) pe_int (fun _ _ => rfl)) (po_some pe_int) po_none)) (pg_sub (pv 2) pe_int set_list))) pss_nil)))) pss_nil)
      (pss_cons (ps_setLc (i := 6) (own := [("_law_plain", 8)]) (g := gName 8) rfl sc_law.nd rfl rfl (sw_true rfl rfl rfl (by decide +kernel)) (pi_list (pv 2)) (blkOk_by (own := [("_law_plain", 8)]) (N := ["_law_script", "_law_bag_here", "_law_plains", "_law_name", "_law_worths", "_law_word", "_law_menus", "_law_turn", "_law_plain"]) (sc := defScope s_law) (by decide +kernel)) (fun _ _ _ _ _ => (pg_name (i := 8) sc_law.nd rfl (Or.inl rfl))) (fun _ _ _ _ _ => pts_nil) (fun _ _ _ _ _ => (PE.to (pe_call c_law_made_menu.ok (by exact hr.mono (by decide)) (by rfl) c_law_made_menu.gl c_law_made_menu.kp c_law_made_menu.b .nil pass0 (pa_cons (pv 8) pa_nil)) (by dsimp only [Cx.blk] <;> rfl))))
      (pss_cons (ps_for PassesOwn.never rfl (pi_list (pe_lst (pa_cons pe_int (pa_cons pe_int (pa_cons pe_int pa_nil))))) (pg_name (i := 7) sc_law.nd rfl (Or.inl rfl))
      (pss_one (ps_if (pt_not (pt_val (pe_call c_law_menu_asked.ok (by exact hr.mono (by decide)) (by rfl) c_law_menu_asked.gl c_law_menu_asked.kp c_law_menu_asked.b .nil pass0 (pa_cons (pv 1) (pa_cons (pe_ix ix_list (pv 2) (pv 7) (fun _ _ => rfl)) (pa_cons (pe_ix ix_list (pv 6) (pv 7) (fun _ _ => rfl)) pa_nil)))))) (pss_one (ps_ret pe_bl)) pss_nil)))
      (pss_one (ps_ret pe_bl))))))), ?_⟩
    refine ⟨.ref a, rfl, a, ns, rfl, hS, fun b l H1 hb hl nl eH => ?_⟩
    let W : Wd := ⟨K, C, b, l, ns⟩
    have ok1 : Ok W [] H1 := by
      refine ⟨⟨0, 0, 17, 0, ?_, nl, ?_, by decide, by decide⟩, fun a h => by cases h⟩
      · rw [eH]; exact upd_same
      · rw [eH]; show upd _ b _ l = _; rw [upd_ne nl, upd_same]
    refine s_lst2R (W := W) (M := []) ok1 (evr_b1 bsr ev_int (by decide)) (evr_b1 bsr ev_int (by decide)) fun v0 v1 cs0 cs1 p G hc0 hc1 eG okG r0 r1 hp => ?_
    obtain ⟨hP0, hp0⟩ := hc0
    obtain ⟨hP1, hp1⟩ := hc1
    have hp1 : prod cs1 ≤ 12 := Int.le_trans hp1 (by decide)
    have e2 : Ex W [] G (upd G p (.lst [v0, v1])) := Ex.new hp
    have okp : Ok W [p] (upd G p (.lst [v0, v1])) := okG.grow hp
    have ok2 : Ok W [] (upd G p (.lst [v0, v1])) := okG.ex e2
    have nb : p ≠ W.b := okG.new_b hp
    have nbl : p ≠ W.bl := okG.new_bl hp
    have q0 : Rep W [p] (upd G p (.lst [v0, v1])) v0 cs0 := r0.grow hp
    have R2 : Rep W [] (upd G p (.lst [v0, v1])) (.ref p) [cs0, cs1] := rep_lst upd_same nb (by simp) (.cons (r0.up e2) (.cons (r1.up e2) .nil))
    have hG : upd G p (.lst [v0, v1]) p = some (.lst [v0, v1]) := upd_same
    generalize upd G p (.lst [v0, v1]) = H2 at e2 okp ok2 q0 R2 hG ⊢
    obtain ⟨c, ct, rfl⟩ : ∃ c ct, cs0 = c :: ct := by
      have := hP0.l1
      match cs0, this with
      | c :: ct, _ => exact ⟨c, ct, rfl⟩
    have at0 : ∀ {ω : Type} (x : ω) (y : List ω), atI (x :: y) 0 = some x := fun x y => atI_nat (xs := x :: y) (j := 0) (v := x) rfl
    dsimp only
    refine s_ifEqJ (W := W) (M := [p]) (J := fun σ' H' => ∃ o3 o4 o5 c0, σ' = [some (.ref a), some (.ref b), some (.ref p), o3, o4, o5, none, none, none] ∧ Plain c0 ∧ prod c0 ≤ 12 ∧ Ok W [] H' ∧ Rep W [] H' (.ref p) [c0, cs1]) okp (evr_b1 bsr (ev_int (n := 3)) (by decide)) ?_ ?_ fun H3 e3 ok3 => ⟨none, none, none, c :: ct, rfl, hP0, hp0, ok2.ex e3, R2.up e3⟩
    · rintro σ' H' ⟨o3, o4, o5, c0, rfl, hP0, hp0, ok', R⟩
      refine s_set (W := W) (M := []) ok' (x := [Menu.mk c0, Menu.mk cs1]) ((ev_lc (f := Menu.mk) (ei_list (ev_var (i := 2) (x := [c0, cs1]) ⟨.ref p, rfl, R⟩)) (by show 2 ≤ 1000000; decide) (by decide) fun i c v M' H' hi l r => ev_f1 (W := W) (ev_var (Sl.me r)) ?_).is rfl) fun v6 H4 e4 ok4 r6 => ?_
      · have := List.mem_of_getElem? hi
        simp only [List.mem_cons, List.not_mem_nil, or_false] at this
        rcases this with rfl | rfl
        · exact ⟨hP0, hp0⟩
        · exact ⟨hP1, hp1⟩
      have turn : ∀ x ∈ [0, 1, (0 : Int)], ∃ c, atI [c0, cs1] x = some c ∧ atI [Menu.mk c0, Menu.mk cs1] x = some (Menu.mk c) ∧ Plain c ∧ prod c ≤ 12 := fun x hx => by
        simp only [List.mem_cons, List.not_mem_nil, or_false] at hx
        rcases hx with rfl | rfl | rfl
        · exact ⟨c0, rfl, rfl, hP0, hp0⟩
        · exact ⟨cs1, rfl, rfl, hP1, hp1⟩
        · exact ⟨c0, rfl, rfl, hP0, hp0⟩
      refine for_w (W := W) (M := []) ok4 (ei_list (ev_lst (xs := [0, 1, (0 : Int)]) (ea_cons ev_int (ea_cons ev_int (ea_cons ev_int ea_nil))) (by decide))) (fun i σ' H' => Ex W [] H4 H' ∧ ∃ o7, σ' = [some (.ref a), some (.ref b), some (.ref p), o3, o4, o5, some v6, o7, none]) (fun H' e => ⟨e, none, rfl⟩) ?_ ?_
      · rintro i x v σ' H5 hi ⟨e0, o7, rfl⟩ ok5 H'' e'' r N hN
        cases (show v = .int x from r)
        obtain ⟨d, hc1, hc2, hP, hp⟩ := turn x (List.mem_of_getElem? hi)
        have ee := e0.trans e''
        refine s_no (W := W) (M := []) (ok5.ex e'') (et_not (b := true) (et_b (ev_asked (W := W) bsr (ev_ixL (ev_var (i := 2) (x := [c0, cs1]) ⟨.ref p, rfl, R.up (e4.trans ee)⟩) (ev_vi (i := 7)) hc1) (ev_ixL (ev_var (i := 6) (x := [Menu.mk c0, Menu.mk cs1]) ⟨v6, rfl, r6.up ee⟩) (ev_vi (i := 7)) hc2) hP hp))) fun H9 e9 ok9 => ?_
        exact hN _ _ ⟨ee.trans e9, _, rfl⟩ e9
      · rintro σ' H9 ⟨e9, o7, rfl⟩ ok9
        dsimp only
        refine s_ret (W := W) (M := []) ok9 (x := true) ev_bl fun v H13 e13 r => ?_
        cases (show v = .bl true from r)
        exact k H13
    · intro hJ H3 e3 ok3
      refine s_set2 (W := W) (M := [p]) ok3 (ev_ixL (ev_raw (W := W) (M := [p]) (i := 2) (x := c :: ct) rfl (e3.keep _ _ nb (by simp) hG) nb rfl (q0.up e3)) ev_int (at0 _ _)) fun v3 v4 H4 e4 ok4 r3 r4 => ?_
      refine s_setR (W := W) (M := [p]) ok4 (evr_ixL (R := fun z : Str => z = "put" ∨ z = "nothing") (ev_lst (ea_cons ev_str (ea_cons ev_str ea_nil)) (by show 2 ≤ 1000000; decide)) (evr_b1 bsr (ev_int (n := 2)) (by decide)) fun n hn => ?_) fun v5 z H5 hz e5 ok5 r5 => ?_
      · have : n = 0 ∨ n = 1 := by have := hn.1; have := hn.2; omega
        rcases this with rfl | rfl
        · exact ⟨_, rfl, .inl rfl⟩
        · exact ⟨_, rfl, .inr rfl⟩
      have e25 := (e3.trans e4).trans e5
      cases (show v3 = .str c.1 from r3)
      cases (show v5 = .str z from r5)
      have out : ∀ {H'}, Ex W [] H5 H' → ∃ o3 o4 o5 c0, [some (.ref a), some (.ref b), some (.ref p), some (.str c.1), some v4, some (.str z), none, none, none] = [some (V.ref a), some (V.ref b), some (V.ref p), o3, o4, o5, none, none, none] ∧ Plain c0 ∧ prod c0 ≤ 12 ∧ Ok W [] H' ∧ Rep W [] H' (.ref p) [c0, cs1] := fun e => ⟨_, _, _, c :: ct, rfl, hP0, hp0, ok2.ex (e25.trans e), R2.up (e25.trans e)⟩
      dsimp only
      refine s_ifc (W := W) (M := [p]) (J := fun σ' H' => ∃ o3 o4 o5 c0, σ' = [some (.ref a), some (.ref b), some (.ref p), o3, o4, o5, none, none, none] ∧ Plain c0 ∧ prod c0 ≤ 12 ∧ Ok W [] H' ∧ Rep W [] H' (.ref p) [c0, cs1]) ok5 (et_t (ev_notIn (x := z) (xs := c.2) (ev_vs (i := 5)) (ev_var (i := 4) ⟨v4, rfl, r4.up e5⟩))) hJ ?_ fun _ H6 e6 ok6 => out e6
      intro hJ hb H6 e6 ok6
      have hz2 : z ∉ c.2 := by simpa using hb
      obtain ⟨hPn, hpn⟩ := word_plain hP0 hz hz2
      have e26 := e25.trans e6
      have hl := (hP0.col c (by simp)).l12
      have hl3 := hP0.l3
      refine s_set0 (W := W) (x := (c.1, z :: c.2.drop 1) :: ct) ok6 rfl nb nbl (e26.keep _ _ nb (by simp) hG) ?_ fun w H7 e7 h7 r7 => ?_
      · refine Ev.is (x := [(c.1, [z] ++ cutG c.2 (some 1) none)] ++ cutG (c :: ct) (some 1) none) (ev_cat ?_ ?_ ?_) ?_
        · refine ev_lst (ea_cons (ev_pair (ev_vs (i := 3)) (ev_cat (ev_lst (ea_cons (ev_vs (i := 5)) ea_nil) (by show 1 ≤ 1000000; decide)) (ev_slL (ev_var (i := 4) (x := c.2) ⟨v4, rfl, (r4.up e5).up e6⟩) (eo_some ev_int) eo_none) ?_)) ea_nil) (by show 1 ≤ 1000000; decide)
          rw [cutG_from, List.length_drop, List.length_singleton]; omega
        · exact ev_slL (ev_raw (W := W) (M := [p]) (i := 2) (x := c :: ct) rfl (e26.keep _ _ nb (by simp) hG) nb rfl (q0.up e26)) (eo_some ev_int) eo_none
        · rw [List.length_singleton, cutG_from, List.length_drop]; omega
        · rw [cutG_from, cutG_from]; rfl
      · have eG7 := (e2.trans e26).dropM e7 hp
        exact hJ _ _ ⟨_, _, _, _, rfl, hPn, Int.le_trans (Int.le_of_eq hpn) hp0, okG.ex eG7, rep_lst h7 nb (by simp) (.cons (r7.subM (by simp)) (.cons (r1.up eG7) .nil))⟩

end
set_option maxHeartbeats 0 in
theorem all_mk {ol : PySem.W.OpenLaw} {w : World} {K : PySem.W.Frag} {h : Heap} {mg : Str → Option Value} {fa C_Table C_Menu f_law_bag f_law_draw f_law_pick f_law_names f_law_mixed f_law_product f_law_menu f_are_different f_is_name f_is_worth f_is_column f_kinds_of f_are_columns f_Menu_init f_Menu_read p_Menu_read f_law_menu_text f_law_made_menu f_law_kinds f_law_counts f_law_numbers f_Menu_len f_is_whole f_is_number f_Menu_contains f_Menu_kinds p_Menu_kinds f_Table_init f_Table_counted p_Table_counted f_Menu_place f_number_in f_counts_in f_Table_read p_Table_read f_law_table_text f_law_made_table f_is_numbers f_Table_counts f_Table_rows p_Table_rows f_Table_getitem f_Table_iter f_Table_text f_Menu_same f_Table_check_menu f_Table_same f_Table_menu p_Table_menu f_law_table_right f_Table_add f_Table_within f_Table_key f_Table_ahead f_law_ahead f_Table_sub f_law_two_right f_law_menu_asked f_law : Addr} (X : K.In h) (G : h.Ns mainGlobals mg) (hfa : mg "law" = some (.ref fa))
    {od0 an0 : Option Addr} {sl0 : Array (Option Value)} {oc0 kV0 dc0 pm0 cd0 ct0 : Value}
    {od1 an1 : Option Addr} {sl1 : Array (Option Value)} {oc1 kV1 dc1 pm1 cd1 ct1 : Value}
    {od2 an2 : Option Addr} {sl2 : Array (Option Value)} {oc2 kV2 dc2 pm2 cd2 ct2 : Value}
    {od3 an3 : Option Addr} {sl3 : Array (Option Value)} {oc3 kV3 dc3 pm3 cd3 ct3 : Value}
    {od4 an4 : Option Addr} {sl4 : Array (Option Value)} {oc4 kV4 dc4 pm4 cd4 ct4 : Value}
    {od5 an5 : Option Addr} {sl5 : Array (Option Value)} {oc5 kV5 dc5 pm5 cd5 ct5 : Value}
    {od6 an6 : Option Addr} {sl6 : Array (Option Value)} {oc6 kV6 dc6 pm6 cd6 ct6 : Value}
    {od7 an7 : Option Addr} {sl7 : Array (Option Value)} {oc7 kV7 dc7 pm7 cd7 ct7 : Value}
    {od8 an8 : Option Addr} {sl8 : Array (Option Value)} {oc8 kV8 dc8 pm8 cd8 ct8 : Value}
    {od9 an9 : Option Addr} {sl9 : Array (Option Value)} {oc9 kV9 dc9 pm9 cd9 ct9 : Value}
    {od10 an10 : Option Addr} {sl10 : Array (Option Value)} {oc10 kV10 dc10 pm10 cd10 ct10 : Value}
    {od11 an11 : Option Addr} {sl11 : Array (Option Value)} {oc11 kV11 dc11 pm11 cd11 ct11 : Value}
    {od12 an12 : Option Addr} {sl12 : Array (Option Value)} {oc12 kV12 dc12 pm12 cd12 ct12 : Value}
    {od13 an13 : Option Addr} {sl13 : Array (Option Value)} {oc13 kV13 dc13 pm13 cd13 ct13 : Value}
    {od14 an14 : Option Addr} {sl14 : Array (Option Value)} {oc14 kV14 dc14 pm14 cd14 ct14 : Value}
    {rs_Menu_read : List Value} {mc_Menu_read : Value}
    {od15 an15 : Option Addr} {sl15 : Array (Option Value)} {oc15 kV15 dc15 pm15 cd15 ct15 : Value}
    {od16 an16 : Option Addr} {sl16 : Array (Option Value)} {oc16 kV16 dc16 pm16 cd16 ct16 : Value}
    {od17 an17 : Option Addr} {sl17 : Array (Option Value)} {oc17 kV17 dc17 pm17 cd17 ct17 : Value}
    {od18 an18 : Option Addr} {sl18 : Array (Option Value)} {oc18 kV18 dc18 pm18 cd18 ct18 : Value}
    {od19 an19 : Option Addr} {sl19 : Array (Option Value)} {oc19 kV19 dc19 pm19 cd19 ct19 : Value}
    {od20 an20 : Option Addr} {sl20 : Array (Option Value)} {oc20 kV20 dc20 pm20 cd20 ct20 : Value}
    {od21 an21 : Option Addr} {sl21 : Array (Option Value)} {oc21 kV21 dc21 pm21 cd21 ct21 : Value}
    {od22 an22 : Option Addr} {sl22 : Array (Option Value)} {oc22 kV22 dc22 pm22 cd22 ct22 : Value}
    {od23 an23 : Option Addr} {sl23 : Array (Option Value)} {oc23 kV23 dc23 pm23 cd23 ct23 : Value}
    {od24 an24 : Option Addr} {sl24 : Array (Option Value)} {oc24 kV24 dc24 pm24 cd24 ct24 : Value}
    {rs_Menu_kinds : List Value}
    {od25 an25 : Option Addr} {sl25 : Array (Option Value)} {oc25 kV25 dc25 pm25 cd25 ct25 : Value}
    {od26 an26 : Option Addr} {sl26 : Array (Option Value)} {oc26 kV26 dc26 pm26 cd26 ct26 : Value}
    {rs_Table_counted : List Value} {mc_Table_counted : Value}
    {od27 an27 : Option Addr} {sl27 : Array (Option Value)} {oc27 kV27 dc27 pm27 cd27 ct27 : Value}
    {od28 an28 : Option Addr} {sl28 : Array (Option Value)} {oc28 kV28 dc28 pm28 cd28 ct28 : Value}
    {od29 an29 : Option Addr} {sl29 : Array (Option Value)} {oc29 kV29 dc29 pm29 cd29 ct29 : Value}
    {od30 an30 : Option Addr} {sl30 : Array (Option Value)} {oc30 kV30 dc30 pm30 cd30 ct30 : Value}
    {rs_Table_read : List Value} {mc_Table_read : Value}
    {od31 an31 : Option Addr} {sl31 : Array (Option Value)} {oc31 kV31 dc31 pm31 cd31 ct31 : Value}
    {od32 an32 : Option Addr} {sl32 : Array (Option Value)} {oc32 kV32 dc32 pm32 cd32 ct32 : Value}
    {od33 an33 : Option Addr} {sl33 : Array (Option Value)} {oc33 kV33 dc33 pm33 cd33 ct33 : Value}
    {od34 an34 : Option Addr} {sl34 : Array (Option Value)} {oc34 kV34 dc34 pm34 cd34 ct34 : Value}
    {od35 an35 : Option Addr} {sl35 : Array (Option Value)} {oc35 kV35 dc35 pm35 cd35 ct35 : Value}
    {rs_Table_rows : List Value}
    {od36 an36 : Option Addr} {sl36 : Array (Option Value)} {oc36 kV36 dc36 pm36 cd36 ct36 : Value}
    {od37 an37 : Option Addr} {sl37 : Array (Option Value)} {oc37 kV37 dc37 pm37 cd37 ct37 : Value}
    {od38 an38 : Option Addr} {sl38 : Array (Option Value)} {oc38 kV38 dc38 pm38 cd38 ct38 : Value}
    {od39 an39 : Option Addr} {sl39 : Array (Option Value)} {oc39 kV39 dc39 pm39 cd39 ct39 : Value}
    {od40 an40 : Option Addr} {sl40 : Array (Option Value)} {oc40 kV40 dc40 pm40 cd40 ct40 : Value}
    {od41 an41 : Option Addr} {sl41 : Array (Option Value)} {oc41 kV41 dc41 pm41 cd41 ct41 : Value}
    {od42 an42 : Option Addr} {sl42 : Array (Option Value)} {oc42 kV42 dc42 pm42 cd42 ct42 : Value}
    {rs_Table_menu : List Value}
    {od43 an43 : Option Addr} {sl43 : Array (Option Value)} {oc43 kV43 dc43 pm43 cd43 ct43 : Value}
    {od44 an44 : Option Addr} {sl44 : Array (Option Value)} {oc44 kV44 dc44 pm44 cd44 ct44 : Value}
    {od45 an45 : Option Addr} {sl45 : Array (Option Value)} {oc45 kV45 dc45 pm45 cd45 ct45 : Value}
    {od46 an46 : Option Addr} {sl46 : Array (Option Value)} {oc46 kV46 dc46 pm46 cd46 ct46 : Value}
    {od47 an47 : Option Addr} {sl47 : Array (Option Value)} {oc47 kV47 dc47 pm47 cd47 ct47 : Value}
    {od48 an48 : Option Addr} {sl48 : Array (Option Value)} {oc48 kV48 dc48 pm48 cd48 ct48 : Value}
    {od49 an49 : Option Addr} {sl49 : Array (Option Value)} {oc49 kV49 dc49 pm49 cd49 ct49 : Value}
    {od50 an50 : Option Addr} {sl50 : Array (Option Value)} {oc50 kV50 dc50 pm50 cd50 ct50 : Value}
    {od51 an51 : Option Addr} {sl51 : Array (Option Value)} {oc51 kV51 dc51 pm51 cd51 ct51 : Value}
    {od52 an52 : Option Addr} {sl52 : Array (Option Value)} {oc52 kV52 dc52 pm52 cd52 ct52 : Value}
    {tk_DIGITS_menus : Tok}
    {tk_DIGITS_tables : Tok}
    {tk_LETTERS : Tok}
    {tk_LONGEST : Tok}
    {tk_MOST_COLUMNS : Tok}
    {tk_MOST_FIGURES : Tok}
    {tk_MOST_KINDS : Tok}
    {tk_MOST_WORTHS : Tok}
    (aCTable : PySem.W.nsIn K mainGlobals "Table" = some (some (.ref C_Table)))
    (aCMenu : PySem.W.nsIn K mainGlobals "Menu" = some (some (.ref C_Menu)))
    (a_law_bag : PySem.W.nsIn K mainGlobals "_law_bag" = some (some (.ref f_law_bag)))
    (l_law_bag : K.lookup f_law_bag = some ⟨oc0, od0, .func (PySem.W.fnOf "_law_bag" "_law_bag" (defArgs s_law_bag) (defBody s_law_bag) (defScope s_law_bag) .none kV0 dc0 pm0 an0 cd0 ct0), sl0⟩)
    (c_law_bag : PySem.W.codeIn K cd0 "_law_bag" = true)
    (k_law_bag : PySem.W.keepIn K (.ref f_law_bag) = true)
    (a_law_draw : PySem.W.nsIn K mainGlobals "_law_draw" = some (some (.ref f_law_draw)))
    (l_law_draw : K.lookup f_law_draw = some ⟨oc1, od1, .func (PySem.W.fnOf "_law_draw" "_law_draw" (defArgs s_law_draw) (defBody s_law_draw) (defScope s_law_draw) .none kV1 dc1 pm1 an1 cd1 ct1), sl1⟩)
    (c_law_draw : PySem.W.codeIn K cd1 "_law_draw" = true)
    (k_law_draw : PySem.W.keepIn K (.ref f_law_draw) = true)
    (a_law_pick : PySem.W.nsIn K mainGlobals "_law_pick" = some (some (.ref f_law_pick)))
    (l_law_pick : K.lookup f_law_pick = some ⟨oc2, od2, .func (PySem.W.fnOf "_law_pick" "_law_pick" (defArgs s_law_pick) (defBody s_law_pick) (defScope s_law_pick) .none kV2 dc2 pm2 an2 cd2 ct2), sl2⟩)
    (c_law_pick : PySem.W.codeIn K cd2 "_law_pick" = true)
    (k_law_pick : PySem.W.keepIn K (.ref f_law_pick) = true)
    (a_law_names : PySem.W.nsIn K mainGlobals "_law_names" = some (some (.ref f_law_names)))
    (l_law_names : K.lookup f_law_names = some ⟨oc3, od3, .func (PySem.W.fnOf "_law_names" "_law_names" (defArgs s_law_names) (defBody s_law_names) (defScope s_law_names) .none kV3 dc3 pm3 an3 cd3 ct3), sl3⟩)
    (c_law_names : PySem.W.codeIn K cd3 "_law_names" = true)
    (k_law_names : PySem.W.keepIn K (.ref f_law_names) = true)
    (a_law_mixed : PySem.W.nsIn K mainGlobals "_law_mixed" = some (some (.ref f_law_mixed)))
    (l_law_mixed : K.lookup f_law_mixed = some ⟨oc4, od4, .func (PySem.W.fnOf "_law_mixed" "_law_mixed" (defArgs s_law_mixed) (defBody s_law_mixed) (defScope s_law_mixed) .none kV4 dc4 pm4 an4 cd4 ct4), sl4⟩)
    (c_law_mixed : PySem.W.codeIn K cd4 "_law_mixed" = true)
    (k_law_mixed : PySem.W.keepIn K (.ref f_law_mixed) = true)
    (a_law_product : PySem.W.nsIn K mainGlobals "_law_product" = some (some (.ref f_law_product)))
    (l_law_product : K.lookup f_law_product = some ⟨oc5, od5, .func (PySem.W.fnOf "_law_product" "_law_product" (defArgs s_law_product) (defBody s_law_product) (defScope s_law_product) .none kV5 dc5 pm5 an5 cd5 ct5), sl5⟩)
    (c_law_product : PySem.W.codeIn K cd5 "_law_product" = true)
    (k_law_product : PySem.W.keepIn K (.ref f_law_product) = true)
    (a_law_menu : PySem.W.nsIn K mainGlobals "_law_menu" = some (some (.ref f_law_menu)))
    (l_law_menu : K.lookup f_law_menu = some ⟨oc6, od6, .func (PySem.W.fnOf "_law_menu" "_law_menu" (defArgs s_law_menu) (defBody s_law_menu) (defScope s_law_menu) .none kV6 dc6 pm6 an6 cd6 ct6), sl6⟩)
    (c_law_menu : PySem.W.codeIn K cd6 "_law_menu" = true)
    (k_law_menu : PySem.W.keepIn K (.ref f_law_menu) = true)
    (a_are_different : PySem.W.nsIn K mainGlobals "are_different" = some (some (.ref f_are_different)))
    (l_are_different : K.lookup f_are_different = some ⟨oc7, od7, .func (PySem.W.fnOf "are_different" "are_different" (defArgs s_are_different) (defBody s_are_different) (defScope s_are_different) .none kV7 dc7 pm7 an7 cd7 ct7), sl7⟩)
    (c_are_different : PySem.W.codeIn K cd7 "are_different" = true)
    (k_are_different : PySem.W.keepIn K (.ref f_are_different) = true)
    (a_is_name : PySem.W.nsIn K mainGlobals "is_name" = some (some (.ref f_is_name)))
    (l_is_name : K.lookup f_is_name = some ⟨oc8, od8, .func (PySem.W.fnOf "is_name" "is_name" (defArgs s_is_name) (defBody s_is_name) (defScope s_is_name) .none kV8 dc8 pm8 an8 cd8 ct8), sl8⟩)
    (c_is_name : PySem.W.codeIn K cd8 "is_name" = true)
    (k_is_name : PySem.W.keepIn K (.ref f_is_name) = true)
    (a_is_worth : PySem.W.nsIn K mainGlobals "is_worth" = some (some (.ref f_is_worth)))
    (l_is_worth : K.lookup f_is_worth = some ⟨oc9, od9, .func (PySem.W.fnOf "is_worth" "is_worth" (defArgs s_is_worth) (defBody s_is_worth) (defScope s_is_worth) .none kV9 dc9 pm9 an9 cd9 ct9), sl9⟩)
    (c_is_worth : PySem.W.codeIn K cd9 "is_worth" = true)
    (k_is_worth : PySem.W.keepIn K (.ref f_is_worth) = true)
    (a_is_column : PySem.W.nsIn K mainGlobals "is_column" = some (some (.ref f_is_column)))
    (l_is_column : K.lookup f_is_column = some ⟨oc10, od10, .func (PySem.W.fnOf "is_column" "is_column" (defArgs s_is_column) (defBody s_is_column) (defScope s_is_column) .none kV10 dc10 pm10 an10 cd10 ct10), sl10⟩)
    (c_is_column : PySem.W.codeIn K cd10 "is_column" = true)
    (k_is_column : PySem.W.keepIn K (.ref f_is_column) = true)
    (a_kinds_of : PySem.W.nsIn K mainGlobals "kinds_of" = some (some (.ref f_kinds_of)))
    (l_kinds_of : K.lookup f_kinds_of = some ⟨oc11, od11, .func (PySem.W.fnOf "kinds_of" "kinds_of" (defArgs s_kinds_of) (defBody s_kinds_of) (defScope s_kinds_of) .none kV11 dc11 pm11 an11 cd11 ct11), sl11⟩)
    (c_kinds_of : PySem.W.codeIn K cd11 "kinds_of" = true)
    (k_kinds_of : PySem.W.keepIn K (.ref f_kinds_of) = true)
    (a_are_columns : PySem.W.nsIn K mainGlobals "are_columns" = some (some (.ref f_are_columns)))
    (l_are_columns : K.lookup f_are_columns = some ⟨oc12, od12, .func (PySem.W.fnOf "are_columns" "are_columns" (defArgs s_are_columns) (defBody s_are_columns) (defScope s_are_columns) .none kV12 dc12 pm12 an12 cd12 ct12), sl12⟩)
    (c_are_columns : PySem.W.codeIn K cd12 "are_columns" = true)
    (k_are_columns : PySem.W.keepIn K (.ref f_are_columns) = true)
    (a_Menu_init : PySem.W.findIn K (.ref C_Menu) "__init__" = some (some (.ref f_Menu_init)))
    (i_Menu_init : PySem.W.isFn K (.ref f_Menu_init) = true)
    (l_Menu_init : K.lookup f_Menu_init = some ⟨oc13, od13, .func (PySem.W.fnOf "__init__" "Menu.__init__" (defArgs s_Menu_init) (defBody s_Menu_init) (defScope s_Menu_init) .none kV13 dc13 pm13 an13 cd13 ct13), sl13⟩)
    (c_Menu_init : PySem.W.codeIn K cd13 "Menu.__init__" = true)
    (k_Menu_init : PySem.W.keepIn K (.ref f_Menu_init) = true)
    (m_Menu_read : PySem.W.typeIn K (.ref C_Menu) = some mc_Menu_read)
    (rd_Menu_read : PySem.W.readsIn K C_Menu mc_Menu_read = true)
    (ga_Menu_read : PySem.W.specialIn K (.ref C_Menu) "__getattribute__" = some (some (.builtin "type.__getattribute__")))
    (a_Menu_read : PySem.W.findCls K (.ref C_Menu) mc_Menu_read "read" = some (.get (.builtin "classmethod.__get__") (.ref p_Menu_read) .none (.ref C_Menu)))
    (r_Menu_read : PySem.W.recIn K p_Menu_read "classmethod" = some (.ref f_Menu_read :: rs_Menu_read))
    (fi_Menu_read : PySem.W.fnIn K f_Menu_read = true)
    (l_Menu_read : K.lookup f_Menu_read = some ⟨oc14, od14, .func (PySem.W.fnOf "read" "Menu.read" (defArgs s_Menu_read) (defBody s_Menu_read) (defScope s_Menu_read) .none kV14 dc14 pm14 an14 cd14 ct14), sl14⟩)
    (c_Menu_read : PySem.W.codeIn K cd14 "Menu.read" = true)
    (k_Menu_read : PySem.W.keepIn K (.ref f_Menu_read) = true)
    (a_law_menu_text : PySem.W.nsIn K mainGlobals "_law_menu_text" = some (some (.ref f_law_menu_text)))
    (l_law_menu_text : K.lookup f_law_menu_text = some ⟨oc15, od15, .func (PySem.W.fnOf "_law_menu_text" "_law_menu_text" (defArgs s_law_menu_text) (defBody s_law_menu_text) (defScope s_law_menu_text) .none kV15 dc15 pm15 an15 cd15 ct15), sl15⟩)
    (c_law_menu_text : PySem.W.codeIn K cd15 "_law_menu_text" = true)
    (k_law_menu_text : PySem.W.keepIn K (.ref f_law_menu_text) = true)
    (a_law_made_menu : PySem.W.nsIn K mainGlobals "_law_made_menu" = some (some (.ref f_law_made_menu)))
    (l_law_made_menu : K.lookup f_law_made_menu = some ⟨oc16, od16, .func (PySem.W.fnOf "_law_made_menu" "_law_made_menu" (defArgs s_law_made_menu) (defBody s_law_made_menu) (defScope s_law_made_menu) .none kV16 dc16 pm16 an16 cd16 ct16), sl16⟩)
    (c_law_made_menu : PySem.W.codeIn K cd16 "_law_made_menu" = true)
    (k_law_made_menu : PySem.W.keepIn K (.ref f_law_made_menu) = true)
    (a_law_kinds : PySem.W.nsIn K mainGlobals "_law_kinds" = some (some (.ref f_law_kinds)))
    (l_law_kinds : K.lookup f_law_kinds = some ⟨oc17, od17, .func (PySem.W.fnOf "_law_kinds" "_law_kinds" (defArgs s_law_kinds) (defBody s_law_kinds) (defScope s_law_kinds) .none kV17 dc17 pm17 an17 cd17 ct17), sl17⟩)
    (c_law_kinds : PySem.W.codeIn K cd17 "_law_kinds" = true)
    (k_law_kinds : PySem.W.keepIn K (.ref f_law_kinds) = true)
    (a_law_counts : PySem.W.nsIn K mainGlobals "_law_counts" = some (some (.ref f_law_counts)))
    (l_law_counts : K.lookup f_law_counts = some ⟨oc18, od18, .func (PySem.W.fnOf "_law_counts" "_law_counts" (defArgs s_law_counts) (defBody s_law_counts) (defScope s_law_counts) .none kV18 dc18 pm18 an18 cd18 ct18), sl18⟩)
    (c_law_counts : PySem.W.codeIn K cd18 "_law_counts" = true)
    (k_law_counts : PySem.W.keepIn K (.ref f_law_counts) = true)
    (a_law_numbers : PySem.W.nsIn K mainGlobals "_law_numbers" = some (some (.ref f_law_numbers)))
    (l_law_numbers : K.lookup f_law_numbers = some ⟨oc19, od19, .func (PySem.W.fnOf "_law_numbers" "_law_numbers" (defArgs s_law_numbers) (defBody s_law_numbers) (defScope s_law_numbers) .none kV19 dc19 pm19 an19 cd19 ct19), sl19⟩)
    (c_law_numbers : PySem.W.codeIn K cd19 "_law_numbers" = true)
    (k_law_numbers : PySem.W.keepIn K (.ref f_law_numbers) = true)
    (a_Menu_len : PySem.W.findIn K (.ref C_Menu) "__len__" = some (some (.ref f_Menu_len)))
    (i_Menu_len : PySem.W.isFn K (.ref f_Menu_len) = true)
    (l_Menu_len : K.lookup f_Menu_len = some ⟨oc20, od20, .func (PySem.W.fnOf "__len__" "Menu.__len__" (defArgs s_Menu_len) (defBody s_Menu_len) (defScope s_Menu_len) .none kV20 dc20 pm20 an20 cd20 ct20), sl20⟩)
    (c_Menu_len : PySem.W.codeIn K cd20 "Menu.__len__" = true)
    (k_Menu_len : PySem.W.keepIn K (.ref f_Menu_len) = true)
    (a_is_whole : PySem.W.nsIn K mainGlobals "is_whole" = some (some (.ref f_is_whole)))
    (l_is_whole : K.lookup f_is_whole = some ⟨oc21, od21, .func (PySem.W.fnOf "is_whole" "is_whole" (defArgs s_is_whole) (defBody s_is_whole) (defScope s_is_whole) .none kV21 dc21 pm21 an21 cd21 ct21), sl21⟩)
    (c_is_whole : PySem.W.codeIn K cd21 "is_whole" = true)
    (k_is_whole : PySem.W.keepIn K (.ref f_is_whole) = true)
    (a_is_number : PySem.W.nsIn K mainGlobals "is_number" = some (some (.ref f_is_number)))
    (l_is_number : K.lookup f_is_number = some ⟨oc22, od22, .func (PySem.W.fnOf "is_number" "is_number" (defArgs s_is_number) (defBody s_is_number) (defScope s_is_number) .none kV22 dc22 pm22 an22 cd22 ct22), sl22⟩)
    (c_is_number : PySem.W.codeIn K cd22 "is_number" = true)
    (k_is_number : PySem.W.keepIn K (.ref f_is_number) = true)
    (a_Menu_contains : PySem.W.findIn K (.ref C_Menu) "__contains__" = some (some (.ref f_Menu_contains)))
    (i_Menu_contains : PySem.W.isFn K (.ref f_Menu_contains) = true)
    (l_Menu_contains : K.lookup f_Menu_contains = some ⟨oc23, od23, .func (PySem.W.fnOf "__contains__" "Menu.__contains__" (defArgs s_Menu_contains) (defBody s_Menu_contains) (defScope s_Menu_contains) .none kV23 dc23 pm23 an23 cd23 ct23), sl23⟩)
    (c_Menu_contains : PySem.W.codeIn K cd23 "Menu.__contains__" = true)
    (k_Menu_contains : PySem.W.keepIn K (.ref f_Menu_contains) = true)
    (a_Menu_kinds : PySem.W.findIn K (.ref C_Menu) "kinds" = some (some (.ref p_Menu_kinds)))
    (g_Menu_kinds : PySem.W.specialIn K (.ref p_Menu_kinds) "__get__" = some (some (.builtin "property.__get__")))
    (t_Menu_kinds : PySem.W.takesIn K (.ref p_Menu_kinds) = some true)
    (r_Menu_kinds : PySem.W.recIn K p_Menu_kinds "property" = some (.ref f_Menu_kinds :: rs_Menu_kinds))
    (l_Menu_kinds : K.lookup f_Menu_kinds = some ⟨oc24, od24, .func (PySem.W.fnOf "kinds" "Menu.kinds" (defArgs s_Menu_kinds) (defBody s_Menu_kinds) (defScope s_Menu_kinds) .none kV24 dc24 pm24 an24 cd24 ct24), sl24⟩)
    (c_Menu_kinds : PySem.W.codeIn K cd24 "Menu.kinds" = true)
    (k_Menu_kinds : PySem.W.keepIn K (.ref f_Menu_kinds) = true)
    (a_Table_init : PySem.W.findIn K (.ref C_Table) "__init__" = some (some (.ref f_Table_init)))
    (i_Table_init : PySem.W.isFn K (.ref f_Table_init) = true)
    (l_Table_init : K.lookup f_Table_init = some ⟨oc25, od25, .func (PySem.W.fnOf "__init__" "Table.__init__" (defArgs s_Table_init) (defBody s_Table_init) (defScope s_Table_init) .none kV25 dc25 pm25 an25 cd25 ct25), sl25⟩)
    (c_Table_init : PySem.W.codeIn K cd25 "Table.__init__" = true)
    (k_Table_init : PySem.W.keepIn K (.ref f_Table_init) = true)
    (m_Table_counted : PySem.W.typeIn K (.ref C_Table) = some mc_Table_counted)
    (rd_Table_counted : PySem.W.readsIn K C_Table mc_Table_counted = true)
    (ga_Table_counted : PySem.W.specialIn K (.ref C_Table) "__getattribute__" = some (some (.builtin "type.__getattribute__")))
    (a_Table_counted : PySem.W.findCls K (.ref C_Table) mc_Table_counted "counted" = some (.get (.builtin "classmethod.__get__") (.ref p_Table_counted) .none (.ref C_Table)))
    (r_Table_counted : PySem.W.recIn K p_Table_counted "classmethod" = some (.ref f_Table_counted :: rs_Table_counted))
    (fi_Table_counted : PySem.W.fnIn K f_Table_counted = true)
    (l_Table_counted : K.lookup f_Table_counted = some ⟨oc26, od26, .func (PySem.W.fnOf "counted" "Table.counted" (defArgs s_Table_counted) (defBody s_Table_counted) (defScope s_Table_counted) .none kV26 dc26 pm26 an26 cd26 ct26), sl26⟩)
    (c_Table_counted : PySem.W.codeIn K cd26 "Table.counted" = true)
    (k_Table_counted : PySem.W.keepIn K (.ref f_Table_counted) = true)
    (a_Menu_place : PySem.W.findIn K (.ref C_Menu) "place" = some (some (.ref f_Menu_place)))
    (i_Menu_place : PySem.W.isFn K (.ref f_Menu_place) = true)
    (l_Menu_place : K.lookup f_Menu_place = some ⟨oc27, od27, .func (PySem.W.fnOf "place" "Menu.place" (defArgs s_Menu_place) (defBody s_Menu_place) (defScope s_Menu_place) .none kV27 dc27 pm27 an27 cd27 ct27), sl27⟩)
    (c_Menu_place : PySem.W.codeIn K cd27 "Menu.place" = true)
    (k_Menu_place : PySem.W.keepIn K (.ref f_Menu_place) = true)
    (a_number_in : PySem.W.nsIn K mainGlobals "number_in" = some (some (.ref f_number_in)))
    (l_number_in : K.lookup f_number_in = some ⟨oc28, od28, .func (PySem.W.fnOf "number_in" "number_in" (defArgs s_number_in) (defBody s_number_in) (defScope s_number_in) .none kV28 dc28 pm28 an28 cd28 ct28), sl28⟩)
    (c_number_in : PySem.W.codeIn K cd28 "number_in" = true)
    (k_number_in : PySem.W.keepIn K (.ref f_number_in) = true)
    (a_counts_in : PySem.W.nsIn K mainGlobals "counts_in" = some (some (.ref f_counts_in)))
    (l_counts_in : K.lookup f_counts_in = some ⟨oc29, od29, .func (PySem.W.fnOf "counts_in" "counts_in" (defArgs s_counts_in) (defBody s_counts_in) (defScope s_counts_in) .none kV29 dc29 pm29 an29 cd29 ct29), sl29⟩)
    (c_counts_in : PySem.W.codeIn K cd29 "counts_in" = true)
    (k_counts_in : PySem.W.keepIn K (.ref f_counts_in) = true)
    (m_Table_read : PySem.W.typeIn K (.ref C_Table) = some mc_Table_read)
    (rd_Table_read : PySem.W.readsIn K C_Table mc_Table_read = true)
    (ga_Table_read : PySem.W.specialIn K (.ref C_Table) "__getattribute__" = some (some (.builtin "type.__getattribute__")))
    (a_Table_read : PySem.W.findCls K (.ref C_Table) mc_Table_read "read" = some (.get (.builtin "classmethod.__get__") (.ref p_Table_read) .none (.ref C_Table)))
    (r_Table_read : PySem.W.recIn K p_Table_read "classmethod" = some (.ref f_Table_read :: rs_Table_read))
    (fi_Table_read : PySem.W.fnIn K f_Table_read = true)
    (l_Table_read : K.lookup f_Table_read = some ⟨oc30, od30, .func (PySem.W.fnOf "read" "Table.read" (defArgs s_Table_read) (defBody s_Table_read) (defScope s_Table_read) .none kV30 dc30 pm30 an30 cd30 ct30), sl30⟩)
    (c_Table_read : PySem.W.codeIn K cd30 "Table.read" = true)
    (k_Table_read : PySem.W.keepIn K (.ref f_Table_read) = true)
    (a_law_table_text : PySem.W.nsIn K mainGlobals "_law_table_text" = some (some (.ref f_law_table_text)))
    (l_law_table_text : K.lookup f_law_table_text = some ⟨oc31, od31, .func (PySem.W.fnOf "_law_table_text" "_law_table_text" (defArgs s_law_table_text) (defBody s_law_table_text) (defScope s_law_table_text) .none kV31 dc31 pm31 an31 cd31 ct31), sl31⟩)
    (c_law_table_text : PySem.W.codeIn K cd31 "_law_table_text" = true)
    (k_law_table_text : PySem.W.keepIn K (.ref f_law_table_text) = true)
    (a_law_made_table : PySem.W.nsIn K mainGlobals "_law_made_table" = some (some (.ref f_law_made_table)))
    (l_law_made_table : K.lookup f_law_made_table = some ⟨oc32, od32, .func (PySem.W.fnOf "_law_made_table" "_law_made_table" (defArgs s_law_made_table) (defBody s_law_made_table) (defScope s_law_made_table) .none kV32 dc32 pm32 an32 cd32 ct32), sl32⟩)
    (c_law_made_table : PySem.W.codeIn K cd32 "_law_made_table" = true)
    (k_law_made_table : PySem.W.keepIn K (.ref f_law_made_table) = true)
    (a_is_numbers : PySem.W.nsIn K mainGlobals "is_numbers" = some (some (.ref f_is_numbers)))
    (l_is_numbers : K.lookup f_is_numbers = some ⟨oc33, od33, .func (PySem.W.fnOf "is_numbers" "is_numbers" (defArgs s_is_numbers) (defBody s_is_numbers) (defScope s_is_numbers) .none kV33 dc33 pm33 an33 cd33 ct33), sl33⟩)
    (c_is_numbers : PySem.W.codeIn K cd33 "is_numbers" = true)
    (k_is_numbers : PySem.W.keepIn K (.ref f_is_numbers) = true)
    (a_Table_counts : PySem.W.findIn K (.ref C_Table) "counts" = some (some (.ref f_Table_counts)))
    (i_Table_counts : PySem.W.isFn K (.ref f_Table_counts) = true)
    (l_Table_counts : K.lookup f_Table_counts = some ⟨oc34, od34, .func (PySem.W.fnOf "counts" "Table.counts" (defArgs s_Table_counts) (defBody s_Table_counts) (defScope s_Table_counts) .none kV34 dc34 pm34 an34 cd34 ct34), sl34⟩)
    (c_Table_counts : PySem.W.codeIn K cd34 "Table.counts" = true)
    (k_Table_counts : PySem.W.keepIn K (.ref f_Table_counts) = true)
    (a_Table_rows : PySem.W.findIn K (.ref C_Table) "rows" = some (some (.ref p_Table_rows)))
    (g_Table_rows : PySem.W.specialIn K (.ref p_Table_rows) "__get__" = some (some (.builtin "property.__get__")))
    (t_Table_rows : PySem.W.takesIn K (.ref p_Table_rows) = some true)
    (r_Table_rows : PySem.W.recIn K p_Table_rows "property" = some (.ref f_Table_rows :: rs_Table_rows))
    (l_Table_rows : K.lookup f_Table_rows = some ⟨oc35, od35, .func (PySem.W.fnOf "rows" "Table.rows" (defArgs s_Table_rows) (defBody s_Table_rows) (defScope s_Table_rows) .none kV35 dc35 pm35 an35 cd35 ct35), sl35⟩)
    (c_Table_rows : PySem.W.codeIn K cd35 "Table.rows" = true)
    (k_Table_rows : PySem.W.keepIn K (.ref f_Table_rows) = true)
    (a_Table_getitem : PySem.W.findIn K (.ref C_Table) "__getitem__" = some (some (.ref f_Table_getitem)))
    (i_Table_getitem : PySem.W.isFn K (.ref f_Table_getitem) = true)
    (fi_Table_getitem : PySem.W.fnIn K f_Table_getitem = true)
    (l_Table_getitem : K.lookup f_Table_getitem = some ⟨oc36, od36, .func (PySem.W.fnOf "__getitem__" "Table.__getitem__" (defArgs s_Table_getitem) (defBody s_Table_getitem) (defScope s_Table_getitem) .none kV36 dc36 pm36 an36 cd36 ct36), sl36⟩)
    (c_Table_getitem : PySem.W.codeIn K cd36 "Table.__getitem__" = true)
    (k_Table_getitem : PySem.W.keepIn K (.ref f_Table_getitem) = true)
    (a_Table_iter : PySem.W.findIn K (.ref C_Table) "__iter__" = some (some (.ref f_Table_iter)))
    (i_Table_iter : PySem.W.isFn K (.ref f_Table_iter) = true)
    (l_Table_iter : K.lookup f_Table_iter = some ⟨oc37, od37, .func (PySem.W.fnOf "__iter__" "Table.__iter__" (defArgs s_Table_iter) (defBody s_Table_iter) (defScope s_Table_iter) .none kV37 dc37 pm37 an37 cd37 ct37), sl37⟩)
    (c_Table_iter : PySem.W.codeIn K cd37 "Table.__iter__" = true)
    (k_Table_iter : PySem.W.keepIn K (.ref f_Table_iter) = true)
    (a_Table_text : PySem.W.findIn K (.ref C_Table) "text" = some (some (.ref f_Table_text)))
    (i_Table_text : PySem.W.isFn K (.ref f_Table_text) = true)
    (l_Table_text : K.lookup f_Table_text = some ⟨oc38, od38, .func (PySem.W.fnOf "text" "Table.text" (defArgs s_Table_text) (defBody s_Table_text) (defScope s_Table_text) .none kV38 dc38 pm38 an38 cd38 ct38), sl38⟩)
    (c_Table_text : PySem.W.codeIn K cd38 "Table.text" = true)
    (k_Table_text : PySem.W.keepIn K (.ref f_Table_text) = true)
    (a_Menu_same : PySem.W.findIn K (.ref C_Menu) "same" = some (some (.ref f_Menu_same)))
    (i_Menu_same : PySem.W.isFn K (.ref f_Menu_same) = true)
    (l_Menu_same : K.lookup f_Menu_same = some ⟨oc39, od39, .func (PySem.W.fnOf "same" "Menu.same" (defArgs s_Menu_same) (defBody s_Menu_same) (defScope s_Menu_same) .none kV39 dc39 pm39 an39 cd39 ct39), sl39⟩)
    (c_Menu_same : PySem.W.codeIn K cd39 "Menu.same" = true)
    (k_Menu_same : PySem.W.keepIn K (.ref f_Menu_same) = true)
    (a_Table_check_menu : PySem.W.findIn K (.ref C_Table) "check_menu" = some (some (.ref f_Table_check_menu)))
    (i_Table_check_menu : PySem.W.isFn K (.ref f_Table_check_menu) = true)
    (l_Table_check_menu : K.lookup f_Table_check_menu = some ⟨oc40, od40, .func (PySem.W.fnOf "check_menu" "Table.check_menu" (defArgs s_Table_check_menu) (defBody s_Table_check_menu) (defScope s_Table_check_menu) .none kV40 dc40 pm40 an40 cd40 ct40), sl40⟩)
    (c_Table_check_menu : PySem.W.codeIn K cd40 "Table.check_menu" = true)
    (k_Table_check_menu : PySem.W.keepIn K (.ref f_Table_check_menu) = true)
    (a_Table_same : PySem.W.findIn K (.ref C_Table) "same" = some (some (.ref f_Table_same)))
    (i_Table_same : PySem.W.isFn K (.ref f_Table_same) = true)
    (l_Table_same : K.lookup f_Table_same = some ⟨oc41, od41, .func (PySem.W.fnOf "same" "Table.same" (defArgs s_Table_same) (defBody s_Table_same) (defScope s_Table_same) .none kV41 dc41 pm41 an41 cd41 ct41), sl41⟩)
    (c_Table_same : PySem.W.codeIn K cd41 "Table.same" = true)
    (k_Table_same : PySem.W.keepIn K (.ref f_Table_same) = true)
    (a_Table_menu : PySem.W.findIn K (.ref C_Table) "menu" = some (some (.ref p_Table_menu)))
    (g_Table_menu : PySem.W.specialIn K (.ref p_Table_menu) "__get__" = some (some (.builtin "property.__get__")))
    (t_Table_menu : PySem.W.takesIn K (.ref p_Table_menu) = some true)
    (r_Table_menu : PySem.W.recIn K p_Table_menu "property" = some (.ref f_Table_menu :: rs_Table_menu))
    (l_Table_menu : K.lookup f_Table_menu = some ⟨oc42, od42, .func (PySem.W.fnOf "menu" "Table.menu" (defArgs s_Table_menu) (defBody s_Table_menu) (defScope s_Table_menu) .none kV42 dc42 pm42 an42 cd42 ct42), sl42⟩)
    (c_Table_menu : PySem.W.codeIn K cd42 "Table.menu" = true)
    (k_Table_menu : PySem.W.keepIn K (.ref f_Table_menu) = true)
    (a_law_table_right : PySem.W.nsIn K mainGlobals "_law_table_right" = some (some (.ref f_law_table_right)))
    (l_law_table_right : K.lookup f_law_table_right = some ⟨oc43, od43, .func (PySem.W.fnOf "_law_table_right" "_law_table_right" (defArgs s_law_table_right) (defBody s_law_table_right) (defScope s_law_table_right) .none kV43 dc43 pm43 an43 cd43 ct43), sl43⟩)
    (c_law_table_right : PySem.W.codeIn K cd43 "_law_table_right" = true)
    (k_law_table_right : PySem.W.keepIn K (.ref f_law_table_right) = true)
    (a_Table_add : PySem.W.findIn K (.ref C_Table) "__add__" = some (some (.ref f_Table_add)))
    (i_Table_add : PySem.W.isFn K (.ref f_Table_add) = true)
    (l_Table_add : K.lookup f_Table_add = some ⟨oc44, od44, .func (PySem.W.fnOf "__add__" "Table.__add__" (defArgs s_Table_add) (defBody s_Table_add) (defScope s_Table_add) .none kV44 dc44 pm44 an44 cd44 ct44), sl44⟩)
    (c_Table_add : PySem.W.codeIn K cd44 "Table.__add__" = true)
    (k_Table_add : PySem.W.keepIn K (.ref f_Table_add) = true)
    (a_Table_within : PySem.W.findIn K (.ref C_Table) "within" = some (some (.ref f_Table_within)))
    (i_Table_within : PySem.W.isFn K (.ref f_Table_within) = true)
    (l_Table_within : K.lookup f_Table_within = some ⟨oc45, od45, .func (PySem.W.fnOf "within" "Table.within" (defArgs s_Table_within) (defBody s_Table_within) (defScope s_Table_within) .none kV45 dc45 pm45 an45 cd45 ct45), sl45⟩)
    (c_Table_within : PySem.W.codeIn K cd45 "Table.within" = true)
    (k_Table_within : PySem.W.keepIn K (.ref f_Table_within) = true)
    (a_Table_key : PySem.W.findIn K (.ref C_Table) "key" = some (some (.ref f_Table_key)))
    (i_Table_key : PySem.W.isFn K (.ref f_Table_key) = true)
    (l_Table_key : K.lookup f_Table_key = some ⟨oc46, od46, .func (PySem.W.fnOf "key" "Table.key" (defArgs s_Table_key) (defBody s_Table_key) (defScope s_Table_key) .none kV46 dc46 pm46 an46 cd46 ct46), sl46⟩)
    (c_Table_key : PySem.W.codeIn K cd46 "Table.key" = true)
    (k_Table_key : PySem.W.keepIn K (.ref f_Table_key) = true)
    (a_Table_ahead : PySem.W.findIn K (.ref C_Table) "ahead" = some (some (.ref f_Table_ahead)))
    (i_Table_ahead : PySem.W.isFn K (.ref f_Table_ahead) = true)
    (l_Table_ahead : K.lookup f_Table_ahead = some ⟨oc47, od47, .func (PySem.W.fnOf "ahead" "Table.ahead" (defArgs s_Table_ahead) (defBody s_Table_ahead) (defScope s_Table_ahead) .none kV47 dc47 pm47 an47 cd47 ct47), sl47⟩)
    (c_Table_ahead : PySem.W.codeIn K cd47 "Table.ahead" = true)
    (k_Table_ahead : PySem.W.keepIn K (.ref f_Table_ahead) = true)
    (a_law_ahead : PySem.W.nsIn K mainGlobals "_law_ahead" = some (some (.ref f_law_ahead)))
    (l_law_ahead : K.lookup f_law_ahead = some ⟨oc48, od48, .func (PySem.W.fnOf "_law_ahead" "_law_ahead" (defArgs s_law_ahead) (defBody s_law_ahead) (defScope s_law_ahead) .none kV48 dc48 pm48 an48 cd48 ct48), sl48⟩)
    (c_law_ahead : PySem.W.codeIn K cd48 "_law_ahead" = true)
    (k_law_ahead : PySem.W.keepIn K (.ref f_law_ahead) = true)
    (a_Table_sub : PySem.W.findIn K (.ref C_Table) "__sub__" = some (some (.ref f_Table_sub)))
    (i_Table_sub : PySem.W.isFn K (.ref f_Table_sub) = true)
    (l_Table_sub : K.lookup f_Table_sub = some ⟨oc49, od49, .func (PySem.W.fnOf "__sub__" "Table.__sub__" (defArgs s_Table_sub) (defBody s_Table_sub) (defScope s_Table_sub) .none kV49 dc49 pm49 an49 cd49 ct49), sl49⟩)
    (c_Table_sub : PySem.W.codeIn K cd49 "Table.__sub__" = true)
    (k_Table_sub : PySem.W.keepIn K (.ref f_Table_sub) = true)
    (a_law_two_right : PySem.W.nsIn K mainGlobals "_law_two_right" = some (some (.ref f_law_two_right)))
    (l_law_two_right : K.lookup f_law_two_right = some ⟨oc50, od50, .func (PySem.W.fnOf "_law_two_right" "_law_two_right" (defArgs s_law_two_right) (defBody s_law_two_right) (defScope s_law_two_right) .none kV50 dc50 pm50 an50 cd50 ct50), sl50⟩)
    (c_law_two_right : PySem.W.codeIn K cd50 "_law_two_right" = true)
    (k_law_two_right : PySem.W.keepIn K (.ref f_law_two_right) = true)
    (a_law_menu_asked : PySem.W.nsIn K mainGlobals "_law_menu_asked" = some (some (.ref f_law_menu_asked)))
    (l_law_menu_asked : K.lookup f_law_menu_asked = some ⟨oc51, od51, .func (PySem.W.fnOf "_law_menu_asked" "_law_menu_asked" (defArgs s_law_menu_asked) (defBody s_law_menu_asked) (defScope s_law_menu_asked) .none kV51 dc51 pm51 an51 cd51 ct51), sl51⟩)
    (c_law_menu_asked : PySem.W.codeIn K cd51 "_law_menu_asked" = true)
    (k_law_menu_asked : PySem.W.keepIn K (.ref f_law_menu_asked) = true)
    (a_law : PySem.W.nsIn K mainGlobals "law" = some (some (.ref f_law)))
    (l_law : K.lookup f_law = some ⟨oc52, od52, .func (PySem.W.fnOf "law" "law" (defArgs s_law) (defBody s_law) (defScope s_law) .none kV52 dc52 pm52 an52 cd52 ct52), sl52⟩)
    (c_law : PySem.W.codeIn K cd52 "law" = true)
    (k_law : PySem.W.keepIn K (.ref f_law) = true)
    (pgTable : PySem.W.plainGet K C_Table Str.empty = true)
    (hdTable : PySem.W.hasDictIn K C_Table = true)
    (poTable : PySem.W.plainOver K C_Table = true)
    (saTable : PySem.W.findIn K (.ref C_Table) "__setattr__" = some (some (.builtin "object.__setattr__")))
    (mkTable : PySem.W.makesIn K C_Table = true)
    (kcTable : PySem.W.keepIn K (.ref C_Table) = true)
    (sfTable : PySem.W.selfFirst K C_Table = true)
    (pgMenu : PySem.W.plainGet K C_Menu Str.empty = true)
    (hdMenu : PySem.W.hasDictIn K C_Menu = true)
    (poMenu : PySem.W.plainOver K C_Menu = true)
    (saMenu : PySem.W.findIn K (.ref C_Menu) "__setattr__" = some (some (.builtin "object.__setattr__")))
    (mkMenu : PySem.W.makesIn K C_Menu = true)
    (kcMenu : PySem.W.keepIn K (.ref C_Menu) = true)
    (n_Menu_own_columns : PySem.W.findIn K (.ref C_Menu) "own_columns" = some none)
    (n_Menu_own_kinds : PySem.W.findIn K (.ref C_Menu) "own_kinds" = some none)
    (n_Table_own_counts : PySem.W.findIn K (.ref C_Table) "own_counts" = some none)
    (n_Table_own_menu : PySem.W.findIn K (.ref C_Table) "own_menu" = some none)
    (n_Table_own_there : PySem.W.findIn K (.ref C_Table) "own_there" = some none)
    (z_len : PySem.W.nsIn K mainGlobals "len" = some none)
    (z_isinstance : PySem.W.nsIn K mainGlobals "isinstance" = some none)
    (z_str : PySem.W.nsIn K mainGlobals "str" = some none)
    (z_int : PySem.W.nsIn K mainGlobals "int" = some none)
    (z_list : PySem.W.nsIn K mainGlobals "list" = some none)
    (z_tuple : PySem.W.nsIn K mainGlobals "tuple" = some none)
    (z_all : PySem.W.nsIn K mainGlobals "all" = some none)
    (z_any : PySem.W.nsIn K mainGlobals "any" = some none)
    (z_range : PySem.W.nsIn K mainGlobals "range" = some none)
    (z_abs : PySem.W.nsIn K mainGlobals "abs" = some none)
    (z_max : PySem.W.nsIn K mainGlobals "max" = some none)
    (z_min : PySem.W.nsIn K mainGlobals "min" = some none)
    (z_sum : PySem.W.nsIn K mainGlobals "sum" = some none)
    (z_enumerate : PySem.W.nsIn K mainGlobals "enumerate" = some none)
    (z_zip : PySem.W.nsIn K mainGlobals "zip" = some none)
    (z_set : PySem.W.nsIn K mainGlobals "set" = some none)
    (z_dict : PySem.W.nsIn K mainGlobals "dict" = some none)
    (z_bool : PySem.W.nsIn K mainGlobals "bool" = some none)
    (z_sorted : PySem.W.nsIn K mainGlobals "sorted" = some none)
    (z_reversed : PySem.W.nsIn K mainGlobals "reversed" = some none)
    (z_iter : PySem.W.nsIn K mainGlobals "iter" = some none)
    (y_DIGITS_menus : PySem.W.nsIn K mainGlobals "DIGITS_menus" = some (some (.str "0123456789" tk_DIGITS_menus)))
    (y_DIGITS_tables : PySem.W.nsIn K mainGlobals "DIGITS_tables" = some (some (.str "0123456789" tk_DIGITS_tables)))
    (y_LETTERS : PySem.W.nsIn K mainGlobals "LETTERS" = some (some (.str "abcdefghijklmnopqrstuvwxyz" tk_LETTERS)))
    (y_LONGEST : PySem.W.nsIn K mainGlobals "LONGEST" = some (some (.int 8 tk_LONGEST)))
    (y_MOST_COLUMNS : PySem.W.nsIn K mainGlobals "MOST_COLUMNS" = some (some (.int 3 tk_MOST_COLUMNS)))
    (y_MOST_FIGURES : PySem.W.nsIn K mainGlobals "MOST_FIGURES" = some (some (.int 30 tk_MOST_FIGURES)))
    (y_MOST_KINDS : PySem.W.nsIn K mainGlobals "MOST_KINDS" = some (some (.int 12 tk_MOST_KINDS)))
    (y_MOST_WORTHS : PySem.W.nsIn K mainGlobals "MOST_WORTHS" = some (some (.int 12 tk_MOST_WORTHS)))
    : ∃ fd : FuncData, (∀ (s : Shared) (v : Value), BindsTo s fd ⟨[v], []⟩ [("_law_script", v)]) ∧ ∀ base : Heap, K.In base → base.Ns mainGlobals mg → FnOk ol.prog w K mg base CX0 10 fa fd ["_law_script"] (sp_lawE K) := by
  have e := hfa.symm.trans (PySem.W.mg_of X G a_law)
  cases e
  obtain ⟨CL, hC_Table, hC_Menu⟩ : ∃ CL : Str → Addr, CL "Table" = C_Table ∧ CL "Menu" = C_Menu := ⟨fun x => if x = "Table" then C_Table else C_Menu, (if_pos rfl), ((if_neg (by decide +kernel)).trans rfl)⟩
  subst hC_Table
  subst hC_Menu
  have dA : PySem.dunder Operator.Add.info.2 = ("__add__" : Str) := by decide +kernel
  have dS : PySem.dunder Operator.Sub.info.2 = ("__sub__" : Str) := by decide +kernel
  have bt : Bt mg := ⟨PySem.W.mg_none_of X G z_len, PySem.W.mg_none_of X G z_isinstance, PySem.W.mg_none_of X G z_str, PySem.W.mg_none_of X G z_int, PySem.W.mg_none_of X G z_list, PySem.W.mg_none_of X G z_tuple, PySem.W.mg_none_of X G z_all, PySem.W.mg_none_of X G z_any, PySem.W.mg_none_of X G z_range, PySem.W.mg_none_of X G z_abs, PySem.W.mg_none_of X G z_max, PySem.W.mg_none_of X G z_min, PySem.W.mg_none_of X G z_sum, PySem.W.mg_none_of X G z_enumerate, PySem.W.mg_none_of X G z_zip, PySem.W.mg_none_of X G z_set, PySem.W.mg_none_of X G z_dict, PySem.W.mg_none_of X G z_bool, PySem.W.mg_none_of X G z_sorted, PySem.W.mg_none_of X G z_reversed, PySem.W.mg_none_of X G z_iter⟩
  have g_DIGITS_menus : ∃ t, mg "DIGITS_menus" = some (.str "0123456789" t) := ⟨_, PySem.W.mg_of X G y_DIGITS_menus⟩
  have g_DIGITS_tables : ∃ t, mg "DIGITS_tables" = some (.str "0123456789" t) := ⟨_, PySem.W.mg_of X G y_DIGITS_tables⟩
  have g_LETTERS : ∃ t, mg "LETTERS" = some (.str "abcdefghijklmnopqrstuvwxyz" t) := ⟨_, PySem.W.mg_of X G y_LETTERS⟩
  have g_LONGEST : ∃ t, mg "LONGEST" = some (.int 8 t) := ⟨_, PySem.W.mg_of X G y_LONGEST⟩
  have g_MOST_COLUMNS : ∃ t, mg "MOST_COLUMNS" = some (.int 3 t) := ⟨_, PySem.W.mg_of X G y_MOST_COLUMNS⟩
  have g_MOST_FIGURES : ∃ t, mg "MOST_FIGURES" = some (.int 30 t) := ⟨_, PySem.W.mg_of X G y_MOST_FIGURES⟩
  have g_MOST_KINDS : ∃ t, mg "MOST_KINDS" = some (.int 12 t) := ⟨_, PySem.W.mg_of X G y_MOST_KINDS⟩
  have g_MOST_WORTHS : ∃ t, mg "MOST_WORTHS" = some (.int 12 t) := ⟨_, PySem.W.mg_of X G y_MOST_WORTHS⟩
  have cl_Table : Cls K (CL "Table") := ⟨pgTable, hdTable, poTable, saTable⟩
  have gCTable : mg "Table" = some (.ref (CL "Table")) := PySem.W.mg_of X G aCTable
  have cl_Menu : Cls K (CL "Menu") := ⟨pgMenu, hdMenu, poMenu, saMenu⟩
  have gCMenu : mg "Menu" = some (.ref (CL "Menu")) := PySem.W.mg_of X G aCMenu
  have F_law_bag := fun_mk (st := s_law_bag) l_law_bag c_law_bag k_law_bag
  have b_law_bag := F_law_bag.binds (ps := ["_law_script"]) fun _ _ _ _ _ _ us hl => match us, hl with | [_], _ => rfl
  have F_law_draw := fun_mk (st := s_law_draw) l_law_draw c_law_draw k_law_draw
  have b_law_draw := F_law_draw.binds (ps := ["_law_bag_here", "_law_size"]) fun _ _ _ _ _ _ us hl => match us, hl with | [_, _], _ => rfl
  have F_law_pick := fun_mk (st := s_law_pick) l_law_pick c_law_pick k_law_pick
  have b_law_pick := F_law_pick.binds (ps := ["_law_bag_here", "_law_items"]) fun _ _ _ _ _ _ us hl => match us, hl with | [_, _], _ => rfl
  have F_law_names := fun_mk (st := s_law_names) l_law_names c_law_names k_law_names
  have b_law_names := F_law_names.binds (ps := ["_law_bag_here", "_law_count", "_law_words"]) fun _ _ _ _ _ _ us hl => match us, hl with | [_, _, _], _ => rfl
  have F_law_mixed := fun_mk (st := s_law_mixed) l_law_mixed c_law_mixed k_law_mixed
  have b_law_mixed := F_law_mixed.binds (ps := ["_law_bag_here", "_law_items"]) fun _ _ _ _ _ _ us hl => match us, hl with | [_, _], _ => rfl
  have F_law_product := fun_mk (st := s_law_product) l_law_product c_law_product k_law_product
  have b_law_product := F_law_product.binds (ps := ["_law_plain"]) fun _ _ _ _ _ _ us hl => match us, hl with | [_], _ => rfl
  have F_law_menu := fun_mk (st := s_law_menu) l_law_menu c_law_menu k_law_menu
  have b_law_menu := F_law_menu.binds (ps := ["_law_bag_here", "_law_most"]) fun _ _ _ _ _ _ us hl => match us, hl with | [_, _], _ => rfl
  have F_are_different := fun_mk (st := s_are_different) l_are_different c_are_different k_are_different
  have b_are_different := F_are_different.binds (ps := ["values"]) fun _ _ _ _ _ _ us hl => match us, hl with | [_], _ => rfl
  have F_is_name := fun_mk (st := s_is_name) l_is_name c_is_name k_is_name
  have b_is_name := F_is_name.binds (ps := ["value"]) fun _ _ _ _ _ _ us hl => match us, hl with | [_], _ => rfl
  have F_is_worth := fun_mk (st := s_is_worth) l_is_worth c_is_worth k_is_worth
  have b_is_worth := F_is_worth.binds (ps := ["value"]) fun _ _ _ _ _ _ us hl => match us, hl with | [_], _ => rfl
  have F_is_column := fun_mk (st := s_is_column) l_is_column c_is_column k_is_column
  have b_is_column := F_is_column.binds (ps := ["value"]) fun _ _ _ _ _ _ us hl => match us, hl with | [_], _ => rfl
  have F_kinds_of := fun_mk (st := s_kinds_of) l_kinds_of c_kinds_of k_kinds_of
  have b_kinds_of := F_kinds_of.binds (ps := ["columns"]) fun _ _ _ _ _ _ us hl => match us, hl with | [_], _ => rfl
  have F_are_columns := fun_mk (st := s_are_columns) l_are_columns c_are_columns k_are_columns
  have b_are_columns := F_are_columns.binds (ps := ["value"]) fun _ _ _ _ _ _ us hl => match us, hl with | [_], _ => rfl
  have F_Menu_init := fun_mk (st := s_Menu_init) l_Menu_init c_Menu_init k_Menu_init
  have b_Menu_init := F_Menu_init.binds (ps := ["self", "columns"]) fun _ _ _ _ _ _ us hl => match us, hl with | [_, _], _ => rfl
  have F_Menu_read := fun_mk (st := s_Menu_read) l_Menu_read c_Menu_read k_Menu_read
  have b_Menu_read := F_Menu_read.binds (ps := ["cls", "text"]) fun _ _ _ _ _ _ us hl => match us, hl with | [_, _], _ => rfl
  have F_law_menu_text := fun_mk (st := s_law_menu_text) l_law_menu_text c_law_menu_text k_law_menu_text
  have b_law_menu_text := F_law_menu_text.binds (ps := ["_law_plain"]) fun _ _ _ _ _ _ us hl => match us, hl with | [_], _ => rfl
  have F_law_made_menu := fun_mk (st := s_law_made_menu) l_law_made_menu c_law_made_menu k_law_made_menu
  have b_law_made_menu := F_law_made_menu.binds (ps := ["_law_plain"]) fun _ _ _ _ _ _ us hl => match us, hl with | [_], _ => rfl
  have F_law_kinds := fun_mk (st := s_law_kinds) l_law_kinds c_law_kinds k_law_kinds
  have b_law_kinds := F_law_kinds.binds (ps := ["_law_plain"]) fun _ _ _ _ _ _ us hl => match us, hl with | [_], _ => rfl
  have F_law_counts := fun_mk (st := s_law_counts) l_law_counts c_law_counts k_law_counts
  have b_law_counts := F_law_counts.binds (ps := ["_law_bag_here", "_law_many", "_law_most"]) fun _ _ _ _ _ _ us hl => match us, hl with | [_, _, _], _ => rfl
  have F_law_numbers := fun_mk (st := s_law_numbers) l_law_numbers c_law_numbers k_law_numbers
  have b_law_numbers := F_law_numbers.binds (ps := ["_law_plain", "_law_counts_here"]) fun _ _ _ _ _ _ us hl => match us, hl with | [_, _], _ => rfl
  have F_Menu_len := fun_mk (st := s_Menu_len) l_Menu_len c_Menu_len k_Menu_len
  have b_Menu_len := F_Menu_len.binds (ps := ["self"]) fun _ _ _ _ _ _ us hl => match us, hl with | [_], _ => rfl
  have F_is_whole := fun_mk (st := s_is_whole) l_is_whole c_is_whole k_is_whole
  have b_is_whole := F_is_whole.binds (ps := ["value"]) fun _ _ _ _ _ _ us hl => match us, hl with | [_], _ => rfl
  have F_is_number := fun_mk (st := s_is_number) l_is_number c_is_number k_is_number
  have b_is_number := F_is_number.binds (ps := ["value"]) fun _ _ _ _ _ _ us hl => match us, hl with | [_], _ => rfl
  have F_Menu_contains := fun_mk (st := s_Menu_contains) l_Menu_contains c_Menu_contains k_Menu_contains
  have b_Menu_contains := F_Menu_contains.binds (ps := ["self", "kind"]) fun _ _ _ _ _ _ us hl => match us, hl with | [_, _], _ => rfl
  have F_Menu_kinds := fun_mk (st := s_Menu_kinds) l_Menu_kinds c_Menu_kinds k_Menu_kinds
  have b_Menu_kinds := F_Menu_kinds.binds (ps := ["self"]) fun _ _ _ _ _ _ us hl => match us, hl with | [_], _ => rfl
  have F_Table_init := fun_mk (st := s_Table_init) l_Table_init c_Table_init k_Table_init
  have b_Table_init := F_Table_init.binds (ps := ["self", "menu", "numbers"]) fun _ _ _ _ _ _ us hl => match us, hl with | [_, _, _], _ => rfl
  have F_Table_counted := fun_mk (st := s_Table_counted) l_Table_counted c_Table_counted k_Table_counted
  have b_Table_counted := F_Table_counted.binds (ps := ["cls", "menu", "counts"]) fun _ _ _ _ _ _ us hl => match us, hl with | [_, _, _], _ => rfl
  have F_Menu_place := fun_mk (st := s_Menu_place) l_Menu_place c_Menu_place k_Menu_place
  have b_Menu_place := F_Menu_place.binds (ps := ["self", "kind"]) fun _ _ _ _ _ _ us hl => match us, hl with | [_, _], _ => rfl
  have F_number_in := fun_mk (st := s_number_in) l_number_in c_number_in k_number_in
  have b_number_in := F_number_in.binds (ps := ["word"]) fun _ _ _ _ _ _ us hl => match us, hl with | [_], _ => rfl
  have F_counts_in := fun_mk (st := s_counts_in) l_counts_in c_counts_in k_counts_in
  have b_counts_in := F_counts_in.binds (ps := ["menu", "text"]) fun _ _ _ _ _ _ us hl => match us, hl with | [_, _], _ => rfl
  have F_Table_read := fun_mk (st := s_Table_read) l_Table_read c_Table_read k_Table_read
  have b_Table_read := F_Table_read.binds (ps := ["cls", "menu", "text"]) fun _ _ _ _ _ _ us hl => match us, hl with | [_, _, _], _ => rfl
  have F_law_table_text := fun_mk (st := s_law_table_text) l_law_table_text c_law_table_text k_law_table_text
  have b_law_table_text := F_law_table_text.binds (ps := ["_law_plain", "_law_counts_here"]) fun _ _ _ _ _ _ us hl => match us, hl with | [_, _], _ => rfl
  have F_law_made_table := fun_mk (st := s_law_made_table) l_law_made_table c_law_made_table k_law_made_table
  have b_law_made_table := F_law_made_table.binds (ps := ["_law_menu_here", "_law_plain", "_law_counts_here"]) fun _ _ _ _ _ _ us hl => match us, hl with | [_, _, _], _ => rfl
  have F_is_numbers := fun_mk (st := s_is_numbers) l_is_numbers c_is_numbers k_is_numbers
  have b_is_numbers := F_is_numbers.binds (ps := ["menu", "value"]) fun _ _ _ _ _ _ us hl => match us, hl with | [_, _], _ => rfl
  have F_Table_counts := fun_mk (st := s_Table_counts) l_Table_counts c_Table_counts k_Table_counts
  have b_Table_counts := F_Table_counts.binds (ps := ["self"]) fun _ _ _ _ _ _ us hl => match us, hl with | [_], _ => rfl
  have F_Table_rows := fun_mk (st := s_Table_rows) l_Table_rows c_Table_rows k_Table_rows
  have b_Table_rows := F_Table_rows.binds (ps := ["self"]) fun _ _ _ _ _ _ us hl => match us, hl with | [_], _ => rfl
  have F_Table_getitem := fun_mk (st := s_Table_getitem) l_Table_getitem c_Table_getitem k_Table_getitem
  have b_Table_getitem := F_Table_getitem.binds (ps := ["self", "kind"]) fun _ _ _ _ _ _ us hl => match us, hl with | [_, _], _ => rfl
  have F_Table_iter := fun_mk (st := s_Table_iter) l_Table_iter c_Table_iter k_Table_iter
  have b_Table_iter := F_Table_iter.binds (ps := ["self"]) fun _ _ _ _ _ _ us hl => match us, hl with | [_], _ => rfl
  have F_Table_text := fun_mk (st := s_Table_text) l_Table_text c_Table_text k_Table_text
  have b_Table_text := F_Table_text.binds (ps := ["self"]) fun _ _ _ _ _ _ us hl => match us, hl with | [_], _ => rfl
  have F_Menu_same := fun_mk (st := s_Menu_same) l_Menu_same c_Menu_same k_Menu_same
  have b_Menu_same := F_Menu_same.binds (ps := ["self", "other"]) fun _ _ _ _ _ _ us hl => match us, hl with | [_, _], _ => rfl
  have F_Table_check_menu := fun_mk (st := s_Table_check_menu) l_Table_check_menu c_Table_check_menu k_Table_check_menu
  have b_Table_check_menu := F_Table_check_menu.binds (ps := ["self", "other"]) fun _ _ _ _ _ _ us hl => match us, hl with | [_, _], _ => rfl
  have F_Table_same := fun_mk (st := s_Table_same) l_Table_same c_Table_same k_Table_same
  have b_Table_same := F_Table_same.binds (ps := ["self", "other"]) fun _ _ _ _ _ _ us hl => match us, hl with | [_, _], _ => rfl
  have F_Table_menu := fun_mk (st := s_Table_menu) l_Table_menu c_Table_menu k_Table_menu
  have b_Table_menu := F_Table_menu.binds (ps := ["self"]) fun _ _ _ _ _ _ us hl => match us, hl with | [_], _ => rfl
  have F_law_table_right := fun_mk (st := s_law_table_right) l_law_table_right c_law_table_right k_law_table_right
  have b_law_table_right := F_law_table_right.binds (ps := ["_law_bag_here", "_law_table", "_law_plain", "_law_counts_here", "_law_menu_here"]) fun _ _ _ _ _ _ us hl => match us, hl with | [_, _, _, _, _], _ => rfl
  have F_Table_add := fun_mk (st := s_Table_add) l_Table_add c_Table_add k_Table_add
  have b_Table_add := F_Table_add.binds (ps := ["self", "other"]) fun _ _ _ _ _ _ us hl => match us, hl with | [_, _], _ => rfl
  have F_Table_within := fun_mk (st := s_Table_within) l_Table_within c_Table_within k_Table_within
  have b_Table_within := F_Table_within.binds (ps := ["self", "other"]) fun _ _ _ _ _ _ us hl => match us, hl with | [_, _], _ => rfl
  have F_Table_key := fun_mk (st := s_Table_key) l_Table_key c_Table_key k_Table_key
  have b_Table_key := F_Table_key.binds (ps := ["self"]) fun _ _ _ _ _ _ us hl => match us, hl with | [_], _ => rfl
  have F_Table_ahead := fun_mk (st := s_Table_ahead) l_Table_ahead c_Table_ahead k_Table_ahead
  have b_Table_ahead := F_Table_ahead.binds (ps := ["self", "other"]) fun _ _ _ _ _ _ us hl => match us, hl with | [_, _], _ => rfl
  have F_law_ahead := fun_mk (st := s_law_ahead) l_law_ahead c_law_ahead k_law_ahead
  have b_law_ahead := F_law_ahead.binds (ps := ["_law_one", "_law_other"]) fun _ _ _ _ _ _ us hl => match us, hl with | [_, _], _ => rfl
  have F_Table_sub := fun_mk (st := s_Table_sub) l_Table_sub c_Table_sub k_Table_sub
  have b_Table_sub := F_Table_sub.binds (ps := ["self", "other"]) fun _ _ _ _ _ _ us hl => match us, hl with | [_, _], _ => rfl
  have F_law_two_right := fun_mk (st := s_law_two_right) l_law_two_right c_law_two_right k_law_two_right
  have b_law_two_right := F_law_two_right.binds (ps := ["_law_bag_here", "_law_tables", "_law_plain", "_law_lots", "_law_menu_here"]) fun _ _ _ _ _ _ us hl => match us, hl with | [_, _, _, _, _], _ => rfl
  have F_law_menu_asked := fun_mk (st := s_law_menu_asked) l_law_menu_asked c_law_menu_asked k_law_menu_asked
  have b_law_menu_asked := F_law_menu_asked.binds (ps := ["_law_bag_here", "_law_plain", "_law_menu_here"]) fun _ _ _ _ _ _ us hl => match us, hl with | [_, _, _], _ => rfl
  have F_law := fun_mk (st := s_law) l_law c_law k_law
  have b_law := F_law.binds (ps := ["_law_script"]) fun _ _ _ _ _ _ us hl => match us, hl with | [_], _ => rfl
  refine ⟨PySem.W.fnOf "law" "law" (defArgs s_law) (defBody s_law) (defScope s_law) .none kV52 dc52 pm52 an52 cd52 ct52, fun s v => .of_eq rfl, fun base _ _ => ?_⟩
  have o_law_bag := ok_law_bag (P := ol.prog) (w := w) (base := base) (C := CL) F_law_bag bt 
  have BC_law_bag : Cal ol.prog w K mg base 1 "_law_bag" ["_law_script"] (sp_law_bag K CL) := ⟨_, _, o_law_bag, PySem.W.mg_of X G a_law_bag, k_law_bag, b_law_bag⟩
  have o_law_draw := ok_law_draw (P := ol.prog) (w := w) (base := base) (C := CL) F_law_draw bt 
  have BC_law_draw : Cal ol.prog w K mg base 1 "_law_draw" ["_law_bag_here", "_law_size"] (sp_law_draw K CL) := ⟨_, _, o_law_draw, PySem.W.mg_of X G a_law_draw, k_law_draw, b_law_draw⟩
  have o_law_pick_spPickListInt := ok_law_pick (List Int) (P := ol.prog) (w := w) (base := base) (C := CL) F_law_pick bt BC_law_draw
  have BC_law_pick_spPickListInt : Cal ol.prog w K mg base 2 "_law_pick" ["_law_bag_here", "_law_items"] (spPick (List Int) K CL) := ⟨_, _, o_law_pick_spPickListInt, PySem.W.mg_of X G a_law_pick, k_law_pick, b_law_pick⟩
  have o_law_names := ok_law_names (P := ol.prog) (w := w) (base := base) (C := CL) F_law_names bt BC_law_draw
  have BC_law_names : Cal ol.prog w K mg base 2 "_law_names" ["_law_bag_here", "_law_count", "_law_words"] (sp_law_names K CL) := ⟨_, _, o_law_names, PySem.W.mg_of X G a_law_names, k_law_names, b_law_names⟩
  have o_law_mixed_spMixedIntInt := ok_law_mixed (Int × Int) (P := ol.prog) (w := w) (base := base) (C := CL) F_law_mixed bt BC_law_draw
  have BC_law_mixed_spMixedIntInt : Cal ol.prog w K mg base 2 "_law_mixed" ["_law_bag_here", "_law_items"] (spMixed (Int × Int) K CL) := ⟨_, _, o_law_mixed_spMixedIntInt, PySem.W.mg_of X G a_law_mixed, k_law_mixed, b_law_mixed⟩
  have o_law_mixed_spMixedInt := ok_law_mixed Int (P := ol.prog) (w := w) (base := base) (C := CL) F_law_mixed bt BC_law_draw
  have BC_law_mixed_spMixedInt : Cal ol.prog w K mg base 2 "_law_mixed" ["_law_bag_here", "_law_items"] (spMixed Int K CL) := ⟨_, _, o_law_mixed_spMixedInt, PySem.W.mg_of X G a_law_mixed, k_law_mixed, b_law_mixed⟩
  have o_law_mixed_spMixedStr := ok_law_mixed Str (P := ol.prog) (w := w) (base := base) (C := CL) F_law_mixed bt BC_law_draw
  have BC_law_mixed_spMixedStr : Cal ol.prog w K mg base 2 "_law_mixed" ["_law_bag_here", "_law_items"] (spMixed Str K CL) := ⟨_, _, o_law_mixed_spMixedStr, PySem.W.mg_of X G a_law_mixed, k_law_mixed, b_law_mixed⟩
  have o_law_mixed_spMixedTupK := ok_law_mixed TupK (P := ol.prog) (w := w) (base := base) (C := CL) F_law_mixed bt BC_law_draw
  have BC_law_mixed_spMixedTupK : Cal ol.prog w K mg base 2 "_law_mixed" ["_law_bag_here", "_law_items"] (spMixed TupK K CL) := ⟨_, _, o_law_mixed_spMixedTupK, PySem.W.mg_of X G a_law_mixed, k_law_mixed, b_law_mixed⟩
  have o_law_product := ok_law_product (P := ol.prog) (w := w) (base := base) (C := CL) F_law_product bt 
  have BC_law_product : Cal ol.prog w K mg base 1 "_law_product" ["_law_plain"] (sp_law_product K CL) := ⟨_, _, o_law_product, PySem.W.mg_of X G a_law_product, k_law_product, b_law_product⟩
  have o_law_menu := ok_law_menu (P := ol.prog) (w := w) (base := base) (C := CL) F_law_menu bt BC_law_pick_spPickListInt BC_law_names BC_law_draw BC_law_mixed_spMixedStr BC_law_product
  have BC_law_menu : Cal ol.prog w K mg base 3 "_law_menu" ["_law_bag_here", "_law_most"] (sp_law_menu K CL) := ⟨_, _, o_law_menu, PySem.W.mg_of X G a_law_menu, k_law_menu, b_law_menu⟩
  have o_are_different := ok_are_different (P := ol.prog) (w := w) (base := base) (C := CL) F_are_different bt 
  have BC_are_different : Cal ol.prog w K mg base 1 "are_different" ["values"] (sp_are_different K CL) := ⟨_, _, o_are_different, PySem.W.mg_of X G a_are_different, k_are_different, b_are_different⟩
  have o_is_name := ok_is_name (P := ol.prog) (w := w) (base := base) (C := CL) F_is_name bt g_LETTERS g_LONGEST
  have BC_is_name : Cal ol.prog w K mg base 1 "is_name" ["value"] (sp_is_name K CL) := ⟨_, _, o_is_name, PySem.W.mg_of X G a_is_name, k_is_name, b_is_name⟩
  have o_is_worth := ok_is_worth (P := ol.prog) (w := w) (base := base) (C := CL) F_is_worth bt g_DIGITS_menus g_LETTERS g_LONGEST
  have BC_is_worth : Cal ol.prog w K mg base 1 "is_worth" ["value"] (sp_is_worth K CL) := ⟨_, _, o_is_worth, PySem.W.mg_of X G a_is_worth, k_is_worth, b_is_worth⟩
  have o_is_column := ok_is_column (P := ol.prog) (w := w) (base := base) (C := CL) F_is_column bt BC_is_name BC_are_different BC_is_worth g_MOST_WORTHS
  have BC_is_column : Cal ol.prog w K mg base 2 "is_column" ["value"] (sp_is_column K CL) := ⟨_, _, o_is_column, PySem.W.mg_of X G a_is_column, k_is_column, b_is_column⟩
  have o_kinds_of := ok_kinds_of (P := ol.prog) (w := w) (base := base) (C := CL) F_kinds_of bt 
  have BC_kinds_of : Cal ol.prog w K mg base 1 "kinds_of" ["columns"] (sp_kinds_of K CL) := ⟨_, _, o_kinds_of, PySem.W.mg_of X G a_kinds_of, k_kinds_of, b_kinds_of⟩
  have o_are_columns := ok_are_columns (P := ol.prog) (w := w) (base := base) (C := CL) F_are_columns bt BC_are_different BC_is_column BC_kinds_of g_MOST_COLUMNS g_MOST_KINDS
  have BC_are_columns : Cal ol.prog w K mg base 3 "are_columns" ["value"] (sp_are_columns K CL) := ⟨_, _, o_are_columns, PySem.W.mg_of X G a_are_columns, k_are_columns, b_are_columns⟩
  have o_Menu_init := ok_Menu_init (P := ol.prog) (w := w) (base := base) (C := CL) F_Menu_init bt BC_are_columns BC_kinds_of cl_Menu n_Menu_own_columns n_Menu_own_kinds
  have BM_Menu_init : MakC ol.prog w K mg base 4 (CL "Menu") "Menu" ["self", "columns"] (sp_Menu_init K CL) := ⟨_, _, o_Menu_init, ⟨mkMenu, a_Menu_init, i_Menu_init, kcMenu⟩, gCMenu, b_Menu_init⟩
  have o_Menu_read := ok_Menu_read (P := ol.prog) (w := w) (base := base) (C := CL) F_Menu_read bt BC_are_columns BM_Menu_init
  have BK_Menu_read : CmC ol.prog w K mg base 6 (CL "Menu") "Menu" "read" ["cls", "text"] (sp_Menu_read K CL) := ⟨_, _, mc_Menu_read, _, o_Menu_read, gCMenu, ⟨rd_Menu_read, ga_Menu_read⟩, ⟨a_Menu_read, ⟨_, r_Menu_read⟩, fi_Menu_read⟩, b_Menu_read⟩
  have o_law_menu_text := ok_law_menu_text (P := ol.prog) (w := w) (base := base) (C := CL) F_law_menu_text bt 
  have BC_law_menu_text : Cal ol.prog w K mg base 1 "_law_menu_text" ["_law_plain"] (sp_law_menu_text K CL) := ⟨_, _, o_law_menu_text, PySem.W.mg_of X G a_law_menu_text, k_law_menu_text, b_law_menu_text⟩
  have o_law_made_menu := ok_law_made_menu (P := ol.prog) (w := w) (base := base) (C := CL) F_law_made_menu bt BK_Menu_read BC_law_menu_text BM_Menu_init
  have BC_law_made_menu : Cal ol.prog w K mg base 7 "_law_made_menu" ["_law_plain"] (sp_law_made_menu K CL) := ⟨_, _, o_law_made_menu, PySem.W.mg_of X G a_law_made_menu, k_law_made_menu, b_law_made_menu⟩
  have o_law_kinds := ok_law_kinds (P := ol.prog) (w := w) (base := base) (C := CL) F_law_kinds bt 
  have BC_law_kinds : Cal ol.prog w K mg base 1 "_law_kinds" ["_law_plain"] (sp_law_kinds K CL) := ⟨_, _, o_law_kinds, PySem.W.mg_of X G a_law_kinds, k_law_kinds, b_law_kinds⟩
  have o_law_counts := ok_law_counts (P := ol.prog) (w := w) (base := base) (C := CL) F_law_counts bt BC_law_draw
  have BC_law_counts : Cal ol.prog w K mg base 2 "_law_counts" ["_law_bag_here", "_law_many", "_law_most"] (sp_law_counts K CL) := ⟨_, _, o_law_counts, PySem.W.mg_of X G a_law_counts, k_law_counts, b_law_counts⟩
  have o_law_numbers := ok_law_numbers (P := ol.prog) (w := w) (base := base) (C := CL) F_law_numbers bt BC_law_kinds
  have BC_law_numbers : Cal ol.prog w K mg base 2 "_law_numbers" ["_law_plain", "_law_counts_here"] (sp_law_numbers K CL) := ⟨_, _, o_law_numbers, PySem.W.mg_of X G a_law_numbers, k_law_numbers, b_law_numbers⟩
  have o_Menu_len := ok_Menu_len (P := ol.prog) (w := w) (base := base) (C := CL) F_Menu_len bt cl_Menu n_Menu_own_kinds
  have BL_Menu_len : OwnC ol.prog w K mg base 1 (CL "Menu") "__len__" ["self"] (sp_Menu_len K CL) := ⟨_, _, o_Menu_len, a_Menu_len, i_Menu_len, b_Menu_len⟩
  have o_is_whole := ok_is_whole (P := ol.prog) (w := w) (base := base) (C := CL) F_is_whole bt 
  have BC_is_whole : Cal ol.prog w K mg base 1 "is_whole" ["value"] (sp_is_whole K CL) := ⟨_, _, o_is_whole, PySem.W.mg_of X G a_is_whole, k_is_whole, b_is_whole⟩
  have o_is_number := ok_is_number (P := ol.prog) (w := w) (base := base) (C := CL) F_is_number bt BC_is_whole
  have BC_is_number : Cal ol.prog w K mg base 2 "is_number" ["value"] (sp_is_number K CL) := ⟨_, _, o_is_number, PySem.W.mg_of X G a_is_number, k_is_number, b_is_number⟩
  have o_Menu_contains := ok_Menu_contains (P := ol.prog) (w := w) (base := base) (C := CL) F_Menu_contains bt cl_Menu n_Menu_own_kinds
  have BO_Menu_contains : OwnC ol.prog w K mg base 1 (CL "Menu") "__contains__" ["self", "kind"] (sp_Menu_contains K CL) := ⟨_, _, o_Menu_contains, a_Menu_contains, i_Menu_contains, b_Menu_contains⟩
  have o_Menu_kinds := ok_Menu_kinds (P := ol.prog) (w := w) (base := base) (C := CL) F_Menu_kinds bt cl_Menu n_Menu_own_kinds
  have BP_Menu_kinds : PropC ol.prog w K mg base 1 (CL "Menu") "kinds" (sp_Menu_kinds K CL) := ⟨_, _, _, o_Menu_kinds, cl_Menu, ⟨a_Menu_kinds, g_Menu_kinds, t_Menu_kinds, ⟨_, r_Menu_kinds⟩⟩, b_Menu_kinds⟩
  have o_Table_init := ok_Table_init (P := ol.prog) (w := w) (base := base) (C := CL) F_Table_init bt BO_Menu_contains BP_Menu_kinds BC_is_number cl_Table n_Table_own_counts n_Table_own_menu n_Table_own_there
  have BM_Table_init : MakC ol.prog w K mg base 3 (CL "Table") "Table" ["self", "menu", "numbers"] (sp_Table_init K CL) := ⟨_, _, o_Table_init, ⟨mkTable, a_Table_init, i_Table_init, kcTable⟩, gCTable, b_Table_init⟩
  have o_Table_counted := ok_Table_counted (P := ol.prog) (w := w) (base := base) (C := CL) F_Table_counted bt BL_Menu_len BC_is_number BM_Table_init BP_Menu_kinds
  have BK_Table_counted : CmC ol.prog w K mg base 5 (CL "Table") "Table" "counted" ["cls", "menu", "counts"] (sp_Table_counted K CL) := ⟨_, _, mc_Table_counted, _, o_Table_counted, gCTable, ⟨rd_Table_counted, ga_Table_counted⟩, ⟨a_Table_counted, ⟨_, r_Table_counted⟩, fi_Table_counted⟩, b_Table_counted⟩
  have o_Menu_place := ok_Menu_place (P := ol.prog) (w := w) (base := base) (C := CL) F_Menu_place bt BO_Menu_contains cl_Menu n_Menu_own_kinds
  have BH_Menu_place : MetC ol.prog w K mg base 2 (CL "Menu") "place" ["self", "kind"] (sp_Menu_place K CL) := ⟨_, _, o_Menu_place, cl_Menu, ⟨a_Menu_place, i_Menu_place, k_Menu_place⟩, b_Menu_place⟩
  have o_number_in := ok_number_in (P := ol.prog) (w := w) (base := base) (C := CL) F_number_in bt g_DIGITS_tables g_MOST_FIGURES
  have BC_number_in : Cal ol.prog w K mg base 1 "number_in" ["word"] (sp_number_in K CL) := ⟨_, _, o_number_in, PySem.W.mg_of X G a_number_in, k_number_in, b_number_in⟩
  have o_counts_in := ok_counts_in (P := ol.prog) (w := w) (base := base) (C := CL) F_counts_in bt BL_Menu_len BH_Menu_place BO_Menu_contains BC_number_in
  have BC_counts_in : Cal ol.prog w K mg base 3 "counts_in" ["menu", "text"] (sp_counts_in K CL) := ⟨_, _, o_counts_in, PySem.W.mg_of X G a_counts_in, k_counts_in, b_counts_in⟩
  have o_Table_read := ok_Table_read (P := ol.prog) (w := w) (base := base) (C := CL) F_Table_read bt BC_counts_in BK_Table_counted
  have BK_Table_read : CmC ol.prog w K mg base 6 (CL "Table") "Table" "read" ["cls", "menu", "text"] (sp_Table_read K CL) := ⟨_, _, mc_Table_read, _, o_Table_read, gCTable, ⟨rd_Table_read, ga_Table_read⟩, ⟨a_Table_read, ⟨_, r_Table_read⟩, fi_Table_read⟩, b_Table_read⟩
  have o_law_table_text := ok_law_table_text (P := ol.prog) (w := w) (base := base) (C := CL) F_law_table_text bt BC_law_kinds
  have BC_law_table_text : Cal ol.prog w K mg base 2 "_law_table_text" ["_law_plain", "_law_counts_here"] (sp_law_table_text K CL) := ⟨_, _, o_law_table_text, PySem.W.mg_of X G a_law_table_text, k_law_table_text, b_law_table_text⟩
  have o_law_made_table := ok_law_made_table (P := ol.prog) (w := w) (base := base) (C := CL) F_law_made_table bt BM_Table_init BC_law_numbers BK_Table_counted BK_Table_read BC_law_table_text
  have BC_law_made_table : Cal ol.prog w K mg base 7 "_law_made_table" ["_law_menu_here", "_law_plain", "_law_counts_here"] (sp_law_made_table K CL) := ⟨_, _, o_law_made_table, PySem.W.mg_of X G a_law_made_table, k_law_made_table, b_law_made_table⟩
  have o_is_numbers := ok_is_numbers (P := ol.prog) (w := w) (base := base) (C := CL) F_is_numbers bt BO_Menu_contains BC_is_number
  have BC_is_numbers : Cal ol.prog w K mg base 3 "is_numbers" ["menu", "value"] (sp_is_numbers K CL) := ⟨_, _, o_is_numbers, PySem.W.mg_of X G a_is_numbers, k_is_numbers, b_is_numbers⟩
  have o_Table_counts := ok_Table_counts (P := ol.prog) (w := w) (base := base) (C := CL) F_Table_counts bt cl_Table n_Table_own_counts
  have BH_Table_counts : MetC ol.prog w K mg base 1 (CL "Table") "counts" ["self"] (sp_Table_counts K CL) := ⟨_, _, o_Table_counts, cl_Table, ⟨a_Table_counts, i_Table_counts, k_Table_counts⟩, b_Table_counts⟩
  have o_Table_rows := ok_Table_rows (P := ol.prog) (w := w) (base := base) (C := CL) F_Table_rows bt cl_Table n_Table_own_counts
  have BP_Table_rows : PropC ol.prog w K mg base 1 (CL "Table") "rows" (sp_Table_rows K CL) := ⟨_, _, _, o_Table_rows, cl_Table, ⟨a_Table_rows, g_Table_rows, t_Table_rows, ⟨_, r_Table_rows⟩⟩, b_Table_rows⟩
  have o_Table_getitem := ok_Table_getitem (P := ol.prog) (w := w) (base := base) (C := CL) F_Table_getitem bt BH_Menu_place cl_Table n_Table_own_counts n_Table_own_menu
  have o_Table_iter := ok_Table_iter (P := ol.prog) (w := w) (base := base) (C := CL) F_Table_iter b_Table_iter bt cl_Table n_Table_own_there
  have BT_Table_iter : ItrC ol.prog w K mg base 1 (CL "Table") (sp_Table_iter K CL) := ⟨_, o_Table_iter, a_Table_iter, i_Table_iter⟩
  have o_Table_text := ok_Table_text (P := ol.prog) (w := w) (base := base) (C := CL) F_Table_text bt (⟨_, _, o_Table_getitem, a_Table_getitem, i_Table_getitem, b_Table_getitem⟩ : OwnC ol.prog w K mg base 3 (CL "Table") "__getitem__" ["self", "kind"] (sp_Table_getitem K CL)) fi_Table_getitem cl_Table n_Table_own_there
  have BH_Table_text : MetC ol.prog w K mg base 5 (CL "Table") "text" ["self"] (sp_Table_text K CL) := ⟨_, _, o_Table_text, cl_Table, ⟨a_Table_text, i_Table_text, k_Table_text⟩, b_Table_text⟩
  have o_Menu_same := ok_Menu_same (P := ol.prog) (w := w) (base := base) (C := CL) F_Menu_same bt cl_Menu n_Menu_own_columns
  have BH_Menu_same : MetC ol.prog w K mg base 1 (CL "Menu") "same" ["self", "other"] (sp_Menu_same K CL) := ⟨_, _, o_Menu_same, cl_Menu, ⟨a_Menu_same, i_Menu_same, k_Menu_same⟩, b_Menu_same⟩
  have o_Table_check_menu := ok_Table_check_menu (P := ol.prog) (w := w) (base := base) (C := CL) F_Table_check_menu bt BH_Menu_same cl_Table n_Table_own_menu
  have BH_Table_check_menu : MetC ol.prog w K mg base 2 (CL "Table") "check_menu" ["self", "other"] (sp_Table_check_menu K CL) := ⟨_, _, o_Table_check_menu, cl_Table, ⟨a_Table_check_menu, i_Table_check_menu, k_Table_check_menu⟩, b_Table_check_menu⟩
  have o_Table_same := ok_Table_same (P := ol.prog) (w := w) (base := base) (C := CL) F_Table_same bt BH_Table_check_menu cl_Table n_Table_own_counts
  have BH_Table_same : MetC ol.prog w K mg base 3 (CL "Table") "same" ["self", "other"] (sp_Table_same K CL) := ⟨_, _, o_Table_same, cl_Table, ⟨a_Table_same, i_Table_same, k_Table_same⟩, b_Table_same⟩
  have o_Table_menu := ok_Table_menu (P := ol.prog) (w := w) (base := base) (C := CL) F_Table_menu bt cl_Table n_Table_own_menu
  have BP_Table_menu : PropC ol.prog w K mg base 1 (CL "Table") "menu" (sp_Table_menu K CL) := ⟨_, _, _, o_Table_menu, cl_Table, ⟨a_Table_menu, g_Table_menu, t_Table_menu, ⟨_, r_Table_menu⟩⟩, b_Table_menu⟩
  have o_law_table_right := ok_law_table_right (P := ol.prog) (w := w) (base := base) (C := CL) F_law_table_right bt BC_law_kinds BC_law_mixed_spMixedInt BH_Table_counts BP_Table_rows (⟨_, _, o_Table_getitem, a_Table_getitem, i_Table_getitem, b_Table_getitem⟩ : OwnC ol.prog w K mg base 3 (CL "Table") "__getitem__" ["self", "kind"] (sp_Table_getitem K CL)) BT_Table_iter BH_Table_text BC_law_table_text BK_Table_read BH_Table_same BP_Table_menu BH_Menu_same fi_Table_getitem
  have BC_law_table_right : Cal ol.prog w K mg base 7 "_law_table_right" ["_law_bag_here", "_law_table", "_law_plain", "_law_counts_here", "_law_menu_here"] (sp_law_table_right K CL) := ⟨_, _, o_law_table_right, PySem.W.mg_of X G a_law_table_right, k_law_table_right, b_law_table_right⟩
  have o_Table_add := ok_Table_add (P := ol.prog) (w := w) (base := base) (C := CL) F_Table_add bt BH_Table_check_menu BK_Table_counted cl_Table n_Table_own_counts n_Table_own_menu
  have BB_Table_add : OwnC ol.prog w K mg base 6 (CL "Table") (PySem.dunder Operator.Add.info.2) ["self", "other"] (sp_Table_add K CL) := ⟨_, _, o_Table_add, by rw [dA]; exact a_Table_add, i_Table_add, b_Table_add⟩
  have o_Table_within := ok_Table_within (P := ol.prog) (w := w) (base := base) (C := CL) F_Table_within bt BH_Table_check_menu cl_Table n_Table_own_counts
  have BH_Table_within : MetC ol.prog w K mg base 3 (CL "Table") "within" ["self", "other"] (sp_Table_within K CL) := ⟨_, _, o_Table_within, cl_Table, ⟨a_Table_within, i_Table_within, k_Table_within⟩, b_Table_within⟩
  have o_Table_key := ok_Table_key (P := ol.prog) (w := w) (base := base) (C := CL) F_Table_key bt BP_Table_rows cl_Table n_Table_own_counts
  have BH_Table_key : MetC ol.prog w K mg base 3 (CL "Table") "key" ["self"] (sp_Table_key K CL) := ⟨_, _, o_Table_key, cl_Table, ⟨a_Table_key, i_Table_key, k_Table_key⟩, b_Table_key⟩
  have o_Table_ahead := ok_Table_ahead (P := ol.prog) (w := w) (base := base) (C := CL) F_Table_ahead bt BH_Table_check_menu BH_Table_key
  have BH_Table_ahead : MetC ol.prog w K mg base 4 (CL "Table") "ahead" ["self", "other"] (sp_Table_ahead K CL) := ⟨_, _, o_Table_ahead, cl_Table, ⟨a_Table_ahead, i_Table_ahead, k_Table_ahead⟩, b_Table_ahead⟩
  have o_law_ahead := ok_law_ahead (P := ol.prog) (w := w) (base := base) (C := CL) F_law_ahead bt 
  have BC_law_ahead : Cal ol.prog w K mg base 1 "_law_ahead" ["_law_one", "_law_other"] (sp_law_ahead K CL) := ⟨_, _, o_law_ahead, PySem.W.mg_of X G a_law_ahead, k_law_ahead, b_law_ahead⟩
  have o_Table_sub := ok_Table_sub (P := ol.prog) (w := w) (base := base) (C := CL) F_Table_sub bt BH_Table_check_menu BH_Table_within BK_Table_counted cl_Table n_Table_own_counts n_Table_own_menu
  have BB_Table_sub : OwnC ol.prog w K mg base 6 (CL "Table") (PySem.dunder Operator.Sub.info.2) ["self", "other"] (sp_Table_sub K CL) := ⟨_, _, o_Table_sub, by rw [dS]; exact a_Table_sub, i_Table_sub, b_Table_sub⟩
  have o_law_two_right := ok_law_two_right (P := ol.prog) (w := w) (base := base) (C := CL) F_law_two_right bt BC_law_table_right BB_Table_add BH_Table_same BH_Table_within BH_Table_ahead BC_law_ahead BB_Table_sub sfTable
  have BC_law_two_right : Cal ol.prog w K mg base 8 "_law_two_right" ["_law_bag_here", "_law_tables", "_law_plain", "_law_lots", "_law_menu_here"] (sp_law_two_right K CL) := ⟨_, _, o_law_two_right, PySem.W.mg_of X G a_law_two_right, k_law_two_right, b_law_two_right⟩
  have o_law_menu_asked := ok_law_menu_asked (P := ol.prog) (w := w) (base := base) (C := CL) F_law_menu_asked bt BC_law_kinds BC_law_draw BC_law_counts BC_law_mixed_spMixedInt BC_law_numbers BC_law_mixed_spMixedTupK BK_Table_counted BM_Table_init BC_law_made_table BC_law_made_menu BC_is_numbers BC_law_mixed_spMixedIntInt BC_law_two_right BC_law_table_right BB_Table_add BH_Table_text BC_law_table_text BH_Table_same BP_Table_rows sfTable
  have BC_law_menu_asked : Cal ol.prog w K mg base 9 "_law_menu_asked" ["_law_bag_here", "_law_plain", "_law_menu_here"] (sp_law_menu_asked K CL) := ⟨_, _, o_law_menu_asked, PySem.W.mg_of X G a_law_menu_asked, k_law_menu_asked, b_law_menu_asked⟩
  exact ok_law (P := ol.prog) (w := w) (base := base) (C := CL) F_law bt BC_law_bag BC_law_menu BC_law_draw BC_law_made_menu BC_law_menu_asked
theorem walk {ol : PySem.W.OpenLaw} {q : Program} {loose : List Str} {XP : (Str → Option Value) → Heap → Prop} {YP : World → Heap → Prop} {d : DefRec} {KK : Params → PySem.W.Frag} (hn : ol.most = some 63) (hdf : d.params.defaults = []) (hY : ∀ (w : World) (h : Heap), YP w h → (KK w.params).In h)
    (F : ∀ (w : World) (mg : Str → Option Value) (fa : Addr) (h : Heap), (KK w.params).In h → h.Ns mainGlobals mg → mg d.name = some (.ref fa) →
      ∃ fd : FuncData, (∀ (s : Shared) (u : Value), BindsTo s fd ⟨[u], []⟩ [("_law_script", u)]) ∧ ∀ base : Heap, (KK w.params).In base → base.Ns mainGlobals mg → FnOk ol.prog w (KK w.params) mg base CX0 10 fa fd ["_law_script"] (sp_lawE (KK w.params))) :
    PySem.W.WalkO q loose XP YP ol.row.toRowW d [] (fun f vs => PySem.call f vs) :=
  L2.walk_of (n := 63) (k := 10) (x := "_law_script") (CX := fun _ => CX0) (sp := fun w => sp_lawE (KK w.params)) hn (by decide) hdf ⟨rfl, by decide, by decide⟩ hY F (fun _ _ a ns hl _ hS => ⟨a, ns, rfl, hS, hl, fun _ => rfl⟩) fun _ _ _ _ _ z => z
end RG

open PySem PySem.W PyProof.Rows in
set_option maxRecDepth 100000 in
set_option maxHeartbeats 0 in
theorem PySem.Challenge.cw_rowsgone_k18_tables_put_together_holds : PySem.Challenge.rw_rowsgone_k18_tables_put_together.Holds := by
  w_on; o_law; k_head; (case hw => w_witness2)
  k_fill
  refine RG.walk (ol := PySem.Challenge.rw_rowsgone_k18_tables_put_together) rfl rfl (fun w h Y => PySem.W.kIn_of Y) ?F
  case F =>
    intro w mg fa h KX G hmg
    refine' RG.all_mk KX G hmg ?aCTable ?aCMenu ?a_law_bag ?l_law_bag ?c_law_bag ?k_law_bag ?a_law_draw ?l_law_draw ?c_law_draw ?k_law_draw ?a_law_pick ?l_law_pick ?c_law_pick ?k_law_pick ?a_law_names ?l_law_names ?c_law_names ?k_law_names ?a_law_mixed ?l_law_mixed ?c_law_mixed ?k_law_mixed ?a_law_product ?l_law_product ?c_law_product ?k_law_product ?a_law_menu ?l_law_menu ?c_law_menu ?k_law_menu ?a_are_different ?l_are_different ?c_are_different ?k_are_different ?a_is_name ?l_is_name ?c_is_name ?k_is_name ?a_is_worth ?l_is_worth ?c_is_worth ?k_is_worth ?a_is_column ?l_is_column ?c_is_column ?k_is_column ?a_kinds_of ?l_kinds_of ?c_kinds_of ?k_kinds_of ?a_are_columns ?l_are_columns ?c_are_columns ?k_are_columns ?a_Menu_init ?i_Menu_init ?l_Menu_init ?c_Menu_init ?k_Menu_init ?m_Menu_read ?rd_Menu_read ?ga_Menu_read ?a_Menu_read ?r_Menu_read ?fi_Menu_read ?l_Menu_read ?c_Menu_read ?k_Menu_read ?a_law_menu_text ?l_law_menu_text ?c_law_menu_text ?k_law_menu_text ?a_law_made_menu ?l_law_made_menu ?c_law_made_menu ?k_law_made_menu ?a_law_kinds ?l_law_kinds ?c_law_kinds ?k_law_kinds ?a_law_counts ?l_law_counts ?c_law_counts ?k_law_counts ?a_law_numbers ?l_law_numbers ?c_law_numbers ?k_law_numbers ?a_Menu_len ?i_Menu_len ?l_Menu_len ?c_Menu_len ?k_Menu_len ?a_is_whole ?l_is_whole ?c_is_whole ?k_is_whole ?a_is_number ?l_is_number ?c_is_number ?k_is_number ?a_Menu_contains ?i_Menu_contains ?l_Menu_contains ?c_Menu_contains ?k_Menu_contains ?a_Menu_kinds ?g_Menu_kinds ?t_Menu_kinds ?r_Menu_kinds ?l_Menu_kinds ?c_Menu_kinds ?k_Menu_kinds ?a_Table_init ?i_Table_init ?l_Table_init ?c_Table_init ?k_Table_init ?m_Table_counted ?rd_Table_counted ?ga_Table_counted ?a_Table_counted ?r_Table_counted ?fi_Table_counted ?l_Table_counted ?c_Table_counted ?k_Table_counted ?a_Menu_place ?i_Menu_place ?l_Menu_place ?c_Menu_place ?k_Menu_place ?a_number_in ?l_number_in ?c_number_in ?k_number_in ?a_counts_in ?l_counts_in ?c_counts_in ?k_counts_in ?m_Table_read ?rd_Table_read ?ga_Table_read ?a_Table_read ?r_Table_read ?fi_Table_read ?l_Table_read ?c_Table_read ?k_Table_read ?a_law_table_text ?l_law_table_text ?c_law_table_text ?k_law_table_text ?a_law_made_table ?l_law_made_table ?c_law_made_table ?k_law_made_table ?a_is_numbers ?l_is_numbers ?c_is_numbers ?k_is_numbers ?a_Table_counts ?i_Table_counts ?l_Table_counts ?c_Table_counts ?k_Table_counts ?a_Table_rows ?g_Table_rows ?t_Table_rows ?r_Table_rows ?l_Table_rows ?c_Table_rows ?k_Table_rows ?a_Table_getitem ?i_Table_getitem ?fi_Table_getitem ?l_Table_getitem ?c_Table_getitem ?k_Table_getitem ?a_Table_iter ?i_Table_iter ?l_Table_iter ?c_Table_iter ?k_Table_iter ?a_Table_text ?i_Table_text ?l_Table_text ?c_Table_text ?k_Table_text ?a_Menu_same ?i_Menu_same ?l_Menu_same ?c_Menu_same ?k_Menu_same ?a_Table_check_menu ?i_Table_check_menu ?l_Table_check_menu ?c_Table_check_menu ?k_Table_check_menu ?a_Table_same ?i_Table_same ?l_Table_same ?c_Table_same ?k_Table_same ?a_Table_menu ?g_Table_menu ?t_Table_menu ?r_Table_menu ?l_Table_menu ?c_Table_menu ?k_Table_menu ?a_law_table_right ?l_law_table_right ?c_law_table_right ?k_law_table_right ?a_Table_add ?i_Table_add ?l_Table_add ?c_Table_add ?k_Table_add ?a_Table_within ?i_Table_within ?l_Table_within ?c_Table_within ?k_Table_within ?a_Table_key ?i_Table_key ?l_Table_key ?c_Table_key ?k_Table_key ?a_Table_ahead ?i_Table_ahead ?l_Table_ahead ?c_Table_ahead ?k_Table_ahead ?a_law_ahead ?l_law_ahead ?c_law_ahead ?k_law_ahead ?a_Table_sub ?i_Table_sub ?l_Table_sub ?c_Table_sub ?k_Table_sub ?a_law_two_right ?l_law_two_right ?c_law_two_right ?k_law_two_right ?a_law_menu_asked ?l_law_menu_asked ?c_law_menu_asked ?k_law_menu_asked ?a_law ?l_law ?c_law ?k_law ?pgTable ?hdTable ?poTable ?saTable ?mkTable ?kcTable ?sfTable ?pgMenu ?hdMenu ?poMenu ?saMenu ?mkMenu ?kcMenu ?n_Menu_own_columns ?n_Menu_own_kinds ?n_Table_own_counts ?n_Table_own_menu ?n_Table_own_there ?z_len ?z_isinstance ?z_str ?z_int ?z_list ?z_tuple ?z_all ?z_any ?z_range ?z_abs ?z_max ?z_min ?z_sum ?z_enumerate ?z_zip ?z_set ?z_dict ?z_bool ?z_sorted ?z_reversed ?z_iter ?y_DIGITS_menus ?y_DIGITS_tables ?y_LETTERS ?y_LONGEST ?y_MOST_COLUMNS ?y_MOST_FIGURES ?y_MOST_KINDS ?y_MOST_WORTHS
    (case aCTable => k_is)
    (case aCMenu => k_is)
    (case a_law_bag => k_is)
    (case l_law_bag => k_is)
    (case c_law_bag => k_is)
    (case k_law_bag => k_is)
    (case a_law_draw => k_is)
    (case l_law_draw => k_is)
    (case c_law_draw => k_is)
    (case k_law_draw => k_is)
    (case a_law_pick => k_is)
    (case l_law_pick => k_is)
    (case c_law_pick => k_is)
    (case k_law_pick => k_is)
    (case a_law_names => k_is)
    (case l_law_names => k_is)
    (case c_law_names => k_is)
    (case k_law_names => k_is)
    (case a_law_mixed => k_is)
    (case l_law_mixed => k_is)
    (case c_law_mixed => k_is)
    (case k_law_mixed => k_is)
    (case a_law_product => k_is)
    (case l_law_product => k_is)
    (case c_law_product => k_is)
    (case k_law_product => k_is)
    (case a_law_menu => k_is)
    (case l_law_menu => k_is)
    (case c_law_menu => k_is)
    (case k_law_menu => k_is)
    (case a_are_different => k_is)
    (case l_are_different => k_is)
    (case c_are_different => k_is)
    (case k_are_different => k_is)
    (case a_is_name => k_is)
    (case l_is_name => k_is)
    (case c_is_name => k_is)
    (case k_is_name => k_is)
    (case a_is_worth => k_is)
    (case l_is_worth => k_is)
    (case c_is_worth => k_is)
    (case k_is_worth => k_is)
    (case a_is_column => k_is)
    (case l_is_column => k_is)
    (case c_is_column => k_is)
    (case k_is_column => k_is)
    (case a_kinds_of => k_is)
    (case l_kinds_of => k_is)
    (case c_kinds_of => k_is)
    (case k_kinds_of => k_is)
    (case a_are_columns => k_is)
    (case l_are_columns => k_is)
    (case c_are_columns => k_is)
    (case k_are_columns => k_is)
    (case a_Menu_init => k_is)
    (case i_Menu_init => k_is)
    (case l_Menu_init => k_is)
    (case c_Menu_init => k_is)
    (case k_Menu_init => k_is)
    (case m_Menu_read => k_is)
    (case rd_Menu_read => k_is)
    (case ga_Menu_read => k_is)
    (case a_Menu_read => k_is)
    (case r_Menu_read => k_is)
    (case fi_Menu_read => k_is)
    (case l_Menu_read => k_is)
    (case c_Menu_read => k_is)
    (case k_Menu_read => k_is)
    (case a_law_menu_text => k_is)
    (case l_law_menu_text => k_is)
    (case c_law_menu_text => k_is)
    (case k_law_menu_text => k_is)
    (case a_law_made_menu => k_is)
    (case l_law_made_menu => k_is)
    (case c_law_made_menu => k_is)
    (case k_law_made_menu => k_is)
    (case a_law_kinds => k_is)
    (case l_law_kinds => k_is)
    (case c_law_kinds => k_is)
    (case k_law_kinds => k_is)
    (case a_law_counts => k_is)
    (case l_law_counts => k_is)
    (case c_law_counts => k_is)
    (case k_law_counts => k_is)
    (case a_law_numbers => k_is)
    (case l_law_numbers => k_is)
    (case c_law_numbers => k_is)
    (case k_law_numbers => k_is)
    (case a_Menu_len => k_is)
    (case i_Menu_len => k_is)
    (case l_Menu_len => k_is)
    (case c_Menu_len => k_is)
    (case k_Menu_len => k_is)
    (case a_is_whole => k_is)
    (case l_is_whole => k_is)
    (case c_is_whole => k_is)
    (case k_is_whole => k_is)
    (case a_is_number => k_is)
    (case l_is_number => k_is)
    (case c_is_number => k_is)
    (case k_is_number => k_is)
    (case a_Menu_contains => k_is)
    (case i_Menu_contains => k_is)
    (case l_Menu_contains => k_is)
    (case c_Menu_contains => k_is)
    (case k_Menu_contains => k_is)
    (case a_Menu_kinds => k_is)
    (case g_Menu_kinds => k_is)
    (case t_Menu_kinds => k_is)
    (case r_Menu_kinds => k_is)
    (case l_Menu_kinds => k_is)
    (case c_Menu_kinds => k_is)
    (case k_Menu_kinds => k_is)
    (case a_Table_init => k_is)
    (case i_Table_init => k_is)
    (case l_Table_init => k_is)
    (case c_Table_init => k_is)
    (case k_Table_init => k_is)
    (case m_Table_counted => k_is)
    (case rd_Table_counted => k_is)
    (case ga_Table_counted => k_is)
    (case a_Table_counted => k_is)
    (case r_Table_counted => k_is)
    (case fi_Table_counted => k_is)
    (case l_Table_counted => k_is)
    (case c_Table_counted => k_is)
    (case k_Table_counted => k_is)
    (case a_Menu_place => k_is)
    (case i_Menu_place => k_is)
    (case l_Menu_place => k_is)
    (case c_Menu_place => k_is)
    (case k_Menu_place => k_is)
    (case a_number_in => k_is)
    (case l_number_in => k_is)
    (case c_number_in => k_is)
    (case k_number_in => k_is)
    (case a_counts_in => k_is)
    (case l_counts_in => k_is)
    (case c_counts_in => k_is)
    (case k_counts_in => k_is)
    (case m_Table_read => k_is)
    (case rd_Table_read => k_is)
    (case ga_Table_read => k_is)
    (case a_Table_read => k_is)
    (case r_Table_read => k_is)
    (case fi_Table_read => k_is)
    (case l_Table_read => k_is)
    (case c_Table_read => k_is)
    (case k_Table_read => k_is)
    (case a_law_table_text => k_is)
    (case l_law_table_text => k_is)
    (case c_law_table_text => k_is)
    (case k_law_table_text => k_is)
    (case a_law_made_table => k_is)
    (case l_law_made_table => k_is)
    (case c_law_made_table => k_is)
    (case k_law_made_table => k_is)
    (case a_is_numbers => k_is)
    (case l_is_numbers => k_is)
    (case c_is_numbers => k_is)
    (case k_is_numbers => k_is)
    (case a_Table_counts => k_is)
    (case i_Table_counts => k_is)
    (case l_Table_counts => k_is)
    (case c_Table_counts => k_is)
    (case k_Table_counts => k_is)
    (case a_Table_rows => k_is)
    (case g_Table_rows => k_is)
    (case t_Table_rows => k_is)
    (case r_Table_rows => k_is)
    (case l_Table_rows => k_is)
    (case c_Table_rows => k_is)
    (case k_Table_rows => k_is)
    (case a_Table_getitem => k_is)
    (case i_Table_getitem => k_is)
    (case fi_Table_getitem => k_is)
    (case l_Table_getitem => k_is)
    (case c_Table_getitem => k_is)
    (case k_Table_getitem => k_is)
    (case a_Table_iter => k_is)
    (case i_Table_iter => k_is)
    (case l_Table_iter => k_is)
    (case c_Table_iter => k_is)
    (case k_Table_iter => k_is)
    (case a_Table_text => k_is)
    (case i_Table_text => k_is)
    (case l_Table_text => k_is)
    (case c_Table_text => k_is)
    (case k_Table_text => k_is)
    (case a_Menu_same => k_is)
    (case i_Menu_same => k_is)
    (case l_Menu_same => k_is)
    (case c_Menu_same => k_is)
    (case k_Menu_same => k_is)
    (case a_Table_check_menu => k_is)
    (case i_Table_check_menu => k_is)
    (case l_Table_check_menu => k_is)
    (case c_Table_check_menu => k_is)
    (case k_Table_check_menu => k_is)
    (case a_Table_same => k_is)
    (case i_Table_same => k_is)
    (case l_Table_same => k_is)
    (case c_Table_same => k_is)
    (case k_Table_same => k_is)
    (case a_Table_menu => k_is)
    (case g_Table_menu => k_is)
    (case t_Table_menu => k_is)
    (case r_Table_menu => k_is)
    (case l_Table_menu => k_is)
    (case c_Table_menu => k_is)
    (case k_Table_menu => k_is)
    (case a_law_table_right => k_is)
    (case l_law_table_right => k_is)
    (case c_law_table_right => k_is)
    (case k_law_table_right => k_is)
    (case a_Table_add => k_is)
    (case i_Table_add => k_is)
    (case l_Table_add => k_is)
    (case c_Table_add => k_is)
    (case k_Table_add => k_is)
    (case a_Table_within => k_is)
    (case i_Table_within => k_is)
    (case l_Table_within => k_is)
    (case c_Table_within => k_is)
    (case k_Table_within => k_is)
    (case a_Table_key => k_is)
    (case i_Table_key => k_is)
    (case l_Table_key => k_is)
    (case c_Table_key => k_is)
    (case k_Table_key => k_is)
    (case a_Table_ahead => k_is)
    (case i_Table_ahead => k_is)
    (case l_Table_ahead => k_is)
    (case c_Table_ahead => k_is)
    (case k_Table_ahead => k_is)
    (case a_law_ahead => k_is)
    (case l_law_ahead => k_is)
    (case c_law_ahead => k_is)
    (case k_law_ahead => k_is)
    (case a_Table_sub => k_is)
    (case i_Table_sub => k_is)
    (case l_Table_sub => k_is)
    (case c_Table_sub => k_is)
    (case k_Table_sub => k_is)
    (case a_law_two_right => k_is)
    (case l_law_two_right => k_is)
    (case c_law_two_right => k_is)
    (case k_law_two_right => k_is)
    (case a_law_menu_asked => k_is)
    (case l_law_menu_asked => k_is)
    (case c_law_menu_asked => k_is)
    (case k_law_menu_asked => k_is)
    (case a_law => k_is)
    (case l_law => k_is)
    (case c_law => k_is)
    (case k_law => k_is)
    (case pgTable => k_is)
    (case hdTable => k_is)
    (case poTable => k_is)
    (case saTable => k_is)
    (case mkTable => k_is)
    (case kcTable => k_is)
    (case sfTable => k_is)
    (case pgMenu => k_is)
    (case hdMenu => k_is)
    (case poMenu => k_is)
    (case saMenu => k_is)
    (case mkMenu => k_is)
    (case kcMenu => k_is)
    (case n_Menu_own_columns => k_is)
    (case n_Menu_own_kinds => k_is)
    (case n_Table_own_counts => k_is)
    (case n_Table_own_menu => k_is)
    (case n_Table_own_there => k_is)
    (case z_len => k_is)
    (case z_isinstance => k_is)
    (case z_str => k_is)
    (case z_int => k_is)
    (case z_list => k_is)
    (case z_tuple => k_is)
    (case z_all => k_is)
    (case z_any => k_is)
    (case z_range => k_is)
    (case z_abs => k_is)
    (case z_max => k_is)
    (case z_min => k_is)
    (case z_sum => k_is)
    (case z_enumerate => k_is)
    (case z_zip => k_is)
    (case z_set => k_is)
    (case z_dict => k_is)
    (case z_bool => k_is)
    (case z_sorted => k_is)
    (case z_reversed => k_is)
    (case z_iter => k_is)
    (case y_DIGITS_menus => k_is)
    (case y_DIGITS_tables => k_is)
    (case y_LETTERS => k_is)
    (case y_LONGEST => k_is)
    (case y_MOST_COLUMNS => k_is)
    (case y_MOST_FIGURES => k_is)
    (case y_MOST_KINDS => k_is)
    (case y_MOST_WORTHS => k_is)
