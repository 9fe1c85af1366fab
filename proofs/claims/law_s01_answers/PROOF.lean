import PyProof.Rows.All
import Wide.All
import OpenK.AllK
import Wide.FinOn
import PyProof.EqAt
import PyProof.EqKinds
import PyProof.TupleCall
import Open.SpecLaws
import KE.OsGo
import HandS.ForSpec
import HandS.ForMost
import HandS.Walk
import HandS.Zip
import HandS.Wide
import HandS.RevRange
import HandS.Conv
import HandS.Evl
import HandS.Flow
import HandS.Codes
import HandS.ExcInit
import HandS.ExcField
import PySem.Challenge.RW_columnengine_s01_answers
import HandS.HeadHook2
import HandS.Defaults
set_option Elab.async false
set_option linter.all false
set_option maxRecDepth 100000
set_option maxHeartbeats 2000000
/-! A data-level logic over the hand layer's readings: slots hold data (PyData), a list of one's own, or the desk. -/
namespace CE
open PySem PySem.Spec PyProof.Rows L2
open Evl (Ex)

/-! ### data in the heap: lists and tuples that are tracked -/
mutual
def Dm (H : Hp) : PyData → V → Prop
  | .none, v => v = .non
  | .bool b, v => v = .bl b
  | .int i, v => v = .int i
  | .str x, v => v = .str x
  | .list ds, v => ∃ a xs, v = .ref a ∧ H a = some (.lst xs) ∧ DmA H ds xs
  | .tuple ds, v => ∃ a xs, v = .ref a ∧ H a = some (.tup xs) ∧ DmA H ds xs
  | .dict _, _ => False
def DmA (H : Hp) : List PyData → List V → Prop
  | [], vs => vs = []
  | d :: ds, vs => ∃ v r, vs = v :: r ∧ Dm H d v ∧ DmA H ds r
end
mutual
theorem dm_mono {H H' : Hp} (e : Ex H H') : ∀ (d : PyData) (v : V), Dm H d v → Dm H' d v
  | .none, _, h => h
  | .bool _, _, h => h
  | .int _, _, h => h
  | .str _, _, h => h
  | .list ds, _, h => by
    obtain ⟨a, xs, rfl, ha, hx⟩ := h
    exact ⟨a, xs, rfl, e _ _ ha, dmA_mono e ds xs hx⟩
  | .tuple ds, _, h => by
    obtain ⟨a, xs, rfl, ha, hx⟩ := h
    exact ⟨a, xs, rfl, e _ _ ha, dmA_mono e ds xs hx⟩
  | .dict _, _, h => h
theorem dmA_mono {H H' : Hp} (e : Ex H H') : ∀ (ds : List PyData) (vs : List V), DmA H ds vs → DmA H' ds vs
  | [], _, h => h
  | d :: ds, _, h => by
    obtain ⟨v, r, rfl, h1, h2⟩ := h
    exact ⟨v, r, rfl, dm_mono e d v h1, dmA_mono e ds r h2⟩
end
theorem dmA_length {H : Hp} : ∀ {ds : List PyData} {vs : List V}, DmA H ds vs → vs.length = ds.length
  | [], _, h => by rw [show _ = _ from h]; rfl
  | d :: ds, _, h => by
    obtain ⟨v, r, rfl, h1, h2⟩ := h
    rw [List.length_cons, List.length_cons, dmA_length h2]
theorem dmA_get {H : Hp} : ∀ {ds : List PyData} {vs : List V} {i : Nat} {d : PyData}, DmA H ds vs → ds[i]? = some d → ∃ v, vs[i]? = some v ∧ Dm H d v
  | [], _, _, _, _, e => by simp at e
  | d :: ds, _, 0, d', h, e => by
    obtain ⟨v, r, rfl, h1, h2⟩ := h
    have : d = d' := by simpa using e
    subst this
    exact ⟨v, rfl, h1⟩
  | d :: ds, _, i + 1, d', h, e => by
    obtain ⟨v, r, rfl, h1, h2⟩ := h
    obtain ⟨u, hu, q⟩ := dmA_get (i := i) (d := d') h2 (by simpa using e)
    exact ⟨u, by simpa using hu, q⟩
theorem dmA_append {H : Hp} : ∀ {ds es : List PyData} {vs us : List V}, DmA H ds vs → DmA H es us → DmA H (ds ++ es) (vs ++ us)
  | [], _, _, _, h, q => by
    obtain rfl : _ = _ := h
    exact q
  | d :: ds, _, _, _, h, q => by
    obtain ⟨v, r, rfl, h1, h2⟩ := h
    exact ⟨v, _, rfl, h1, dmA_append h2 q⟩
theorem dmA_drop {H : Hp} : ∀ {ds : List PyData} {vs : List V} (n : Nat), DmA H ds vs → DmA H (ds.drop n) (vs.drop n)
  | _, _, 0, h => h
  | [], _, n + 1, h => by
    obtain rfl : _ = _ := h
    rfl
  | d :: ds, _, n + 1, h => by
    obtain ⟨v, r, rfl, h1, h2⟩ := h
    exact dmA_drop n h2
theorem dmA_take {H : Hp} : ∀ {ds : List PyData} {vs : List V} (n : Nat), DmA H ds vs → DmA H (ds.take n) (vs.take n)
  | _, _, 0, _ => by
    show DmA H [] _
    exact List.take_zero
  | [], _, n + 1, h => by
    obtain rfl : _ = _ := h
    rfl
  | d :: ds, _, n + 1, h => by
    obtain ⟨v, r, rfl, h1, h2⟩ := h
    exact ⟨v, _, rfl, h1, dmA_take n h2⟩
theorem dmA_set {H : Hp} {d : PyData} {v : V} (hv : Dm H d v) : ∀ {ds : List PyData} {vs : List V} (n : Nat), DmA H ds vs → DmA H (ds.set n d) (vs.set n v)
  | [], _, _, h => by
    obtain rfl : _ = _ := h
    rfl
  | e :: ds, _, 0, h => by
    obtain ⟨u, r, rfl, h1, h2⟩ := h
    exact ⟨v, _, rfl, hv, h2⟩
  | e :: ds, _, n + 1, h => by
    obtain ⟨u, r, rfl, h1, h2⟩ := h
    exact ⟨u, _, rfl, h1, dmA_set hv n h2⟩
/-- whole numbers -/
abbrev nI (l : List Int) : List PyData := l.map PyData.int
abbrev dI (l : List Int) : PyData := .list (nI l)
theorem dmA_ints {H : Hp} : ∀ {l : List Int} {vs : List V}, DmA H (nI l) vs → vs = l.map V.int
  | [], _, h => h
  | i :: l, _, h => by
    obtain ⟨v, r, rfl, h1, h2⟩ := h
    have e : v = .int i := h1
    rw [e, dmA_ints h2] <;> rfl
theorem dmA_ofInts {H : Hp} : ∀ (l : List Int), DmA H (nI l) (l.map V.int)
  | [] => rfl
  | i :: l => ⟨_, _, rfl, rfl, dmA_ofInts l⟩
mutual
theorem dm_dp {K : PySem.W.Frag} {H : Hp} : ∀ (d : PyData) (v : V), Dm H d v → Dp K H v d
  | .none, _, h => by
    obtain rfl : _ = _ := h
    exact .non
  | .bool b, _, h => by
    obtain rfl : _ = _ := h
    exact .bl b
  | .int i, _, h => by
    obtain rfl : _ = _ := h
    exact .int i
  | .str x, _, h => by
    obtain rfl : _ = _ := h
    exact .str x
  | .list ds, _, h => by
    obtain ⟨a, xs, rfl, ha, hx⟩ := h
    exact .lst (.inl (.inl ha)) (dmA_dp ds xs hx)
  | .tuple ds, _, h => by
    obtain ⟨a, xs, rfl, ha, hx⟩ := h
    exact .tup (.inl (.inl ha)) (dmA_dp ds xs hx)
  | .dict _, _, h => h.elim
theorem dmA_dp {K : PySem.W.Frag} {H : Hp} : ∀ (ds : List PyData) (vs : List V), DmA H ds vs → DpAll K H vs ds
  | [], _, h => by
    obtain rfl : _ = _ := h
    exact .nil
  | d :: ds, _, h => by
    obtain ⟨v, r, rfl, h1, h2⟩ := h
    exact .cons (dm_dp d v h1) (dmA_dp ds r h2)
end

/-! ### the heap without some addresses -/
def hid (L : List Addr) (H : Hp) : Hp := fun b => if b ∈ L then none else H b
theorem hid_ex {L : List Addr} {H : Hp} : Ex (hid L H) H := fun b o h => by
  unfold hid at h
  split at h
  · cases h
  · exact h
theorem hid_at {L : List Addr} {H : Hp} {b : Addr} (h : b ∉ L) : hid L H b = H b := by
  unfold hid
  rw [if_neg h]
theorem hid_some {L : List Addr} {H : Hp} {b : Addr} {o : HO} (h : hid L H b = some o) : b ∉ L ∧ H b = some o := by
  unfold hid at h
  split at h
  · cases h
  · exact ⟨by assumption, h⟩
theorem hid_mono {L : List Addr} {H H' : Hp} (e : Ex H H') : Ex (hid L H) (hid L H') := fun b o h => by
  obtain ⟨n, h⟩ := hid_some h
  rw [hid_at n]
  exact e b o h
theorem hid_upd {L : List Addr} {H : Hp} {l : Addr} {o : HO} (h : l ∈ L) : hid L (upd H l o) = hid L H := by
  funext b
  unfold hid
  split
  · rfl
  · rename_i n
    exact upd_ne fun e => n (e ▸ h)
theorem hid_sub {L L' : List Addr} {H : Hp} (h : ∀ b ∈ L', b ∈ L) : Ex (hid L H) (hid L' H) := fun b o q => by
  obtain ⟨n, q⟩ := hid_some q
  rw [hid_at fun z => n (h b z)]
  exact q
/-- a new address hidden too -/
theorem hid_cons {L : List Addr} {H H' : Hp} {p : Addr} (hp : H p = none) (e : Ex H H') : Ex (hid L H) (hid (p :: L) H') := fun b o q => by
  obtain ⟨n, q⟩ := hid_some q
  have hb : b ≠ p := fun z => by rw [z, hp] at q; cases q
  rw [hid_at (by simp only [List.mem_cons, not_or]; exact ⟨hb, n⟩)]
  exact e b o q

/-! ### slots -/
inductive SD where
  | no
  | val (d : PyData)
  | own (ds : List PyData)
  | desk
structure Dk where
  size : Int
  cols : List Int
  lines : List Int
/-- where a def runs: the desk's class, what stood at its entry, what was hidden then, the desk's place -/
structure Cc where
  K : PySem.W.Frag
  C : Addr
  B : Hp
  L_0 : List Addr
  a : Option Addr
  mu : Bool
def dkF (m : Dk) (pc pl : Addr) : List (Str × V) := [("size", .int m.size), ("columns", .ref pc), ("lines", .ref pl)]
def DkAt (C : Addr) (L : List Addr) (H : Hp) (a : Addr) (m : Dk) : Prop :=
  ∃ dx pc pl, H a = some (.ins C dx (dkF m pc pl)) ∧ Dm (hid L H) (dI m.cols) (.ref pc) ∧ Dm (hid L H) (dI m.lines) (.ref pl)
def SlotOk (c : Cc) (L : List Addr) (H : Hp) (x : Option V) : SD → Prop
  | .no => True
  | .val d => ∃ v, x = some v ∧ Dm (hid L H) d v
  | .own ds => ∃ l xs, x = some (.ref l) ∧ l ∈ L ∧ c.B l = none ∧ c.a ≠ some l ∧ H l = some (.lst xs) ∧ DmA (hid L H) ds xs
  | .desk => ∃ a, c.a = some a ∧ x = some (.ref a)
structure Sl (c : Cc) (L : List Addr) (H : Hp) (σ : L2.St) (τ : List SD) (m : Dk) : Prop where
  len : σ.length = τ.length
  base : Ex c.B H
  lzero : ∀ b ∈ c.L_0, b ∈ L
  wf : ∀ b ∈ c.L_0, (∃ o, c.B b = some o) ∨ c.a = some b
  dom : ∀ b ∈ L, ∃ o, H b = some o
  sub : ∀ b ∈ L, b ∈ c.L_0 ∨ c.B b = none
  slot : ∀ (i : Nat) (s : SD) (x : Option V), τ[i]? = some s → σ[i]? = some x → SlotOk c L H x s
  dist : ∀ (i j : Nat) (ds es : List PyData) (l : Addr), τ[i]? = some (.own ds) → τ[j]? = some (.own es) → σ[i]? = some (some (.ref l)) → σ[j]? = some (some (.ref l)) → i = j
  dk : ∀ a, c.a = some a → a ∈ L ∧ (c.mu = true → c.B a = none) ∧ DkAt c.C L H a m
theorem DkAt.mono {C : Addr} {L : List Addr} {H H' : Hp} {a : Addr} {m : Dk} (e : Ex H H') (h : DkAt C L H a m) : DkAt C L H' a m := by
  obtain ⟨dx, pc, pl, h1, h2, h3⟩ := h
  exact ⟨dx, pc, pl, e _ _ h1, dm_mono (hid_mono e) _ _ h2, dm_mono (hid_mono e) _ _ h3⟩
theorem SlotOk.mono {c : Cc} {L : List Addr} {H H' : Hp} {x : Option V} (e : Ex H H') : ∀ {s : SD}, SlotOk c L H x s → SlotOk c L H' x s
  | .no, h => h
  | .val d, h => by
    obtain ⟨v, rfl, h⟩ := h
    exact ⟨v, rfl, dm_mono (hid_mono e) _ _ h⟩
  | .own ds, h => by
    obtain ⟨l, xs, h1, h2, h3, h4, h5, h6⟩ := h
    exact ⟨l, xs, h1, h2, h3, h4, e _ _ h5, dmA_mono (hid_mono e) _ _ h6⟩
  | .desk, h => h
theorem Sl.mono {c : Cc} {L : List Addr} {H H' : Hp} {σ : L2.St} {τ : List SD} {m : Dk} (I : Sl c L H σ τ m) (e : Ex H H') : Sl c L H' σ τ m :=
  ⟨I.len, I.base.trans e, I.lzero, I.wf, fun b h => by obtain ⟨o, q⟩ := I.dom b h; exact ⟨o, e _ _ q⟩, I.sub, fun i s x h1 h2 => (I.slot i s x h1 h2).mono e, I.dist, fun a h => ⟨(I.dk a h).1, (I.dk a h).2.1, (I.dk a h).2.2.mono e⟩⟩
theorem Sl.new {c : Cc} {L : List Addr} {H : Hp} {σ : L2.St} {τ : List SD} {m : Dk} (I : Sl c L H σ τ m) {p : Addr} (h : H p = none) : p ∉ L := fun z => by
  obtain ⟨o, q⟩ := I.dom p z
  rw [q] at h
  cases h
theorem Sl.get {c : Cc} {L : List Addr} {H : Hp} {σ : L2.St} {τ : List SD} {m : Dk} (I : Sl c L H σ τ m) {i : Nat} {s : SD} (h : τ[i]? = some s) : ∃ x, σ[i]? = some x ∧ SlotOk c L H x s := by
  have hi : i < σ.length := by rw [I.len]; exact (List.getElem?_eq_some_iff.mp h).1
  exact ⟨σ[i], List.getElem?_eq_getElem hi, I.slot i s _ h (List.getElem?_eq_getElem hi)⟩

/-! ### what an expression comes to -/
/-- data (not an own list) -/
def EvS (c : Cc) (te : TE) (τ : List SD) (m : Dk) (d : PyData) : Prop := ∀ L H σ, Sl c L H σ τ m → ∀ Q : VK, (∀ v H2, Ex H H2 → Dm (hid L H2) d v → Q v H2) → te σ H Q
/-- a list to be read -/
def EvQ (c : Cc) (te : TE) (τ : List SD) (m : Dk) (ds : List PyData) : Prop := ∀ L H σ, Sl c L H σ τ m → ∀ Q : VK, (∀ p xs H2, Ex H H2 → H2 p = some (.lst xs) → DmA (hid L H2) ds xs → Q (.ref p) H2) → te σ H Q
/-- a new list -/
def EvN (c : Cc) (te : TE) (τ : List SD) (m : Dk) (ds : List PyData) : Prop := ∀ L H σ, Sl c L H σ τ m → ∀ Q : VK, (∀ p xs H2, H p = none → Ex H H2 → H2 p = some (.lst xs) → DmA (hid (p :: L) H2) ds xs → Q (.ref p) H2) → te σ H Q
def EvB (c : Cc) (tt : TT) (τ : List SD) (m : Dk) (b : Bool) : Prop := ∀ L H σ, Sl c L H σ τ m → ∀ Q : Bool → Hp → Prop, (∀ H2, Ex H H2 → Q b H2) → tt σ H Q
/-- arguments; arguments that may be own lists -/
def EvA (c : Cc) (ta : TA) (τ : List SD) (m : Dk) (ds : List PyData) : Prop := ∀ L H σ, Sl c L H σ τ m → ∀ Q : List V → Hp → Prop, (∀ vs H2, Ex H H2 → DmA (hid L H2) ds vs → Q vs H2) → ta σ H Q
def EvW (c : Cc) (ta : TA) (τ : List SD) (m : Dk) (ds : List PyData) : Prop := ∀ L H σ, Sl c L H σ τ m → ∀ Q : List V → Hp → Prop, (∀ vs H2, Ex H H2 → DmA H2 ds vs → Q vs H2) → ta σ H Q
def EvO (c : Cc) (to : TO) (τ : List SD) (m : Dk) (o : Option Int) : Prop := ∀ L H σ, Sl c L H σ τ m → ∀ Q : Option Int → Hp → Prop, (∀ H2, Ex H H2 → Q o H2) → to σ H Q
section
variable {c : Cc} {τ : List SD} {m : Dk} {ta tb te : TE} {t u : TT} {d e : PyData} {ds es : List PyData}
theorem EvN.s (h : EvN c te τ m ds) : EvS c te τ m (.list ds) := fun L H σ I Q q => h L H σ I Q fun p xs H2 hp e h2 hx => q _ H2 e ⟨p, xs, rfl, by rw [hid_at (I.new hp)]; exact h2, dmA_mono (hid_sub fun b z => List.mem_cons_of_mem _ z) _ _ hx⟩
theorem EvS.q (h : EvS c te τ m (.list ds)) : EvQ c te τ m ds := fun L H σ I Q q => h L H σ I Q fun v H2 e h2 => by
  obtain ⟨a, xs, rfl, ha, hx⟩ := h2
  exact q a xs H2 e (hid_ex _ _ ha) hx
theorem EvN.q (h : EvN c te τ m ds) : EvQ c te τ m ds := h.s.q
theorem EvS.is {d' : PyData} (h : EvS c te τ m d) (e : d = d') : EvS c te τ m d' := e ▸ h
theorem EvQ.is {ds' : List PyData} (h : EvQ c te τ m ds) (e : ds = ds') : EvQ c te τ m ds' := e ▸ h
theorem EvN.is {ds' : List PyData} (h : EvN c te τ m ds) (e : ds = ds') : EvN c te τ m ds' := e ▸ h
theorem EvB.is {b b' : Bool} (h : EvB c t τ m b) (e : b = b') : EvB c t τ m b' := e ▸ h
/-- names, constants -/
theorem e_var {i : Nat} (h : τ[i]? = some (.val d)) : EvS c (tVar i) τ m d := fun L H σ I Q q => by
  obtain ⟨x, hx, v, rfl, hv⟩ := I.get h
  exact ⟨v, hx, q v H (Ex.refl H) hv⟩
theorem q_var {i : Nat} (h : τ[i]? = some (.own ds)) : EvQ c (tVar i) τ m ds := fun L H σ I Q q => by
  obtain ⟨x, hx, l, xs, rfl, h1, h2, h3, h4, h5⟩ := I.get h
  exact ⟨_, hx, q l xs H (Ex.refl H) h4 h5⟩
theorem e_int {i : Int} : EvS c (tC (.int i)) τ m (.int i) := fun L H σ I Q q => q _ H (Ex.refl H) rfl
theorem e_bl {b : Bool} : EvS c (tC (.bl b)) τ m (.bool b) := fun L H σ I Q q => q _ H (Ex.refl H) rfl
theorem e_non : EvS c (tC .non) τ m .none := fun L H σ I Q q => q _ H (Ex.refl H) rfl
/-- two in a row -/
theorem e_two {R : V → V → Hp → Prop} (ha : EvS c ta τ m d) (hb : EvS c tb τ m e) : ∀ L H σ, Sl c L H σ τ m → (∀ v w H2, Ex H H2 → Dm (hid L H2) d v → Dm (hid L H2) e w → R v w H2) → ta σ H fun v H1 => tb σ H1 fun w H2 => R v w H2 :=
  fun L H σ I q => ha L H σ I _ fun v H1 e1 h1 => hb L H1 σ (I.mono e1) _ fun w H2 e2 h2 => q v w H2 (e1.trans e2) (dm_mono (hid_mono e2) _ _ h1) h2
theorem e_I0 {g : Int → Int → Int} {i j : Int} (ha : EvS c ta τ m (.int i)) (hb : EvS c tb τ m (.int j)) : EvS c (tOp (rI0 fun i j => .int (g i j)) ta tb) τ m (.int (g i j)) := fun L H σ I Q q =>
  e_two ha hb L H σ I fun v w H2 e h1 h2 => ⟨i, j, h1, h2, q _ H2 e rfl⟩
theorem e_I {C : Int → Int → Prop} {g : Int → Int → Int} {i j : Int} (ha : EvS c ta τ m (.int i)) (hb : EvS c tb τ m (.int j)) (hc : C i j) : EvS c (tOp (rI C fun i j => .int (g i j)) ta tb) τ m (.int (g i j)) := fun L H σ I Q q =>
  e_two ha hb L H σ I fun v w H2 e h1 h2 => ⟨i, j, h1, h2, hc, q _ H2 e rfl⟩
theorem e_C0 {g : Int → Int → Bool} {i j : Int} (ha : EvS c ta τ m (.int i)) (hb : EvS c tb τ m (.int j)) : EvS c (tOp (rI0 fun i j => .bl (g i j)) ta tb) τ m (.bool (g i j)) := fun L H σ I Q q =>
  e_two ha hb L H σ I fun v w H2 e h1 h2 => ⟨i, j, h1, h2, q _ H2 e rfl⟩
theorem dec_int (i j : Int) : decide ((V.int i) = V.int j) = decide (i = j) := by
  by_cases h : i = j
  · subst h; simp
  · rw [decide_eq_false h, decide_eq_false fun z => h (V.int.inj z)]
theorem e_eqI {i j : Int} (ha : EvS c ta τ m (.int i)) (hb : EvS c tb τ m (.int j)) : EvS c (tOp rEq ta tb) τ m (.bool (decide (i = j))) := fun L H σ I Q q =>
  e_two ha hb L H σ I fun v w H2 e h1 h2 => by
    obtain rfl : v = .int i := h1
    obtain rfl : w = .int j := h2
    exact ⟨rfl, q _ H2 e (by rw [dec_int] <;> rfl)⟩
theorem e_neI {i j : Int} (ha : EvS c ta τ m (.int i)) (hb : EvS c tb τ m (.int j)) : EvS c (tOp rNe ta tb) τ m (.bool (!decide (i = j))) := fun L H σ I Q q =>
  e_two ha hb L H σ I fun v w H2 e h1 h2 => by
    obtain rfl : v = .int i := h1
    obtain rfl : w = .int j := h2
    exact ⟨rfl, q _ H2 e (by rw [dec_int] <;> rfl)⟩
end
end CE
namespace CE
open PySem PySem.Spec PyProof.Rows L2
open Evl (Ex rLenS rListS sz_of sz_lt)
section
variable {c : Cc} {τ : List SD} {m : Dk} {ta tb te : TE} {t u : TT} {d e : PyData} {ds es : List PyData} {K : PySem.W.Frag}
/-- tests -/
theorem b_test {b : Bool} (h : EvS c te τ m (.bool b)) : EvB c (tTest te) τ m b := fun L H σ I Q q => h L H σ I _ fun v H2 e h2 => ⟨b, h2, q H2 e⟩
theorem b_B {b : Bool} (h : EvS c te τ m (.bool b)) : EvB c (tB te) τ m b := fun L H σ I Q q => h L H σ I _ fun v H2 e h2 => ⟨b, h2, q H2 e⟩
theorem b_and {a b : Bool} (h1 : EvB c t τ m a) (h2 : a = true → EvB c u τ m b) : EvB c (tAnd t u) τ m (a && b) := fun L H σ I Q q => h1 L H σ I _ fun H2 e2 => by
  cases a with
  | true => exact h2 rfl L H2 σ (I.mono e2) Q fun H3 e3 => q H3 (e2.trans e3)
  | false => exact q H2 e2
theorem b_or {a b : Bool} (h1 : EvB c t τ m a) (h2 : a = false → EvB c u τ m b) : EvB c (tOr t u) τ m (a || b) := fun L H σ I Q q => h1 L H σ I _ fun H2 e2 => by
  cases a with
  | true => exact q H2 e2
  | false => exact h2 rfl L H2 σ (I.mono e2) Q fun H3 e3 => q H3 (e2.trans e3)
theorem b_not {a : Bool} (h1 : EvB c t τ m a) : EvB c (tNot t) τ m (!a) := fun L H σ I Q q => h1 L H σ I _ fun H2 e2 => q H2 e2
theorem b_yes : EvB c tYes τ m true := fun L H σ I Q q => q H (Ex.refl H)
/-- True, False by and, or as values -/
theorem e_andV {a b : Bool} (h1 : EvS c ta τ m (.bool a)) (h2 : a = true → EvS c tb τ m (.bool b)) : EvS c (tAndV ta tb) τ m (.bool (a && b)) := fun L H σ I Q q => h1 L H σ I _ fun v H2 e2 hv => ⟨a, hv, by
  cases a with
  | true => exact h2 rfl L H2 σ (I.mono e2) Q fun w H3 e3 hw => q w H3 (e2.trans e3) hw
  | false => exact q _ H2 e2 rfl⟩
theorem e_neg {i : Int} (h : EvS c ta τ m (.int i)) : EvS c (tUn (rU fun i => .int (-i)) ta) τ m (.int (-i)) := fun L H σ I Q q => h L H σ I _ fun v H2 e h2 => ⟨i, h2, q _ H2 e rfl⟩
theorem e_isN (h : EvS c ta τ m d) : EvS c (tIsN ta) τ m (.bool (match d with | .none => true | _ => false)) := fun L H σ I Q q => h L H σ I _ fun v H2 e h2 => q _ H2 e (by
  cases d with
  | none => obtain rfl : v = _ := h2; rfl
  | bool b => obtain rfl : v = _ := h2; rfl
  | int b => obtain rfl : v = _ := h2; rfl
  | str b => obtain rfl : v = _ := h2; rfl
  | list l => obtain ⟨a, xs, rfl, _⟩ := h2; rfl
  | tuple l => obtain ⟨a, xs, rfl, _⟩ := h2; rfl
  | dict l => exact h2.elim)
/-- == and != of data -/
theorem e_eqD (ha : EvS c ta τ m d) (hb : EvS c tb τ m e) (h1 : SeqAt.shaped d = true) (h2 : SeqAt.shaped e = true) : EvS c (tOp (rEqD K) ta tb) τ m (.bool (PyData.eqv d e)) := fun L H σ I Q q =>
  e_two ha hb L H σ I fun v w H2 ex k1 k2 => ⟨d, e, dm_dp d v (dm_mono hid_ex _ _ k1), dm_dp e w (dm_mono hid_ex _ _ k2), h1, h2, q _ H2 ex rfl⟩
theorem e_neD (ha : EvS c ta τ m d) (hb : EvS c tb τ m e) (h1 : SeqAt.shaped d = true) (h2 : SeqAt.shaped e = true) : EvS c (tOp (rNeD K) ta tb) τ m (.bool (!PyData.eqv d e)) := fun L H σ I Q q =>
  e_two ha hb L H σ I fun v w H2 ex k1 k2 => ⟨d, e, dm_dp d v (dm_mono hid_ex _ _ k1), dm_dp e w (dm_mono hid_ex _ _ k2), h1, h2, q _ H2 ex rfl⟩
theorem canLay_ints : ∀ l : List Int, PyData.canLayAll0 (nI l) = true
  | [] => rfl
  | _ :: l => canLay_ints l
theorem depth_ints : ∀ l : List Int, PyData.depthAll (nI l) = 0
  | [] => rfl
  | _ :: l => by
    show max 0 (PyData.depthAll (nI l)) = 0
    rw [depth_ints l] <;> rfl
theorem shaped_ints (l : List Int) : SeqAt.shaped (dI l) = true := by
  unfold SeqAt.shaped
  rw [show (dI l).canLay0 = true from canLay_ints l, show (dI l).depth = 1 from congrArg (· + 1) (depth_ints l)] <;> rfl
theorem eqvAll_ints : ∀ l k : List Int, PyData.eqvAll (nI l) (nI k) = decide (l = k)
  | [], [] => rfl
  | [], _ :: _ => rfl
  | _ :: _, [] => rfl
  | a :: l, b :: k => by
    show (a == b && PyData.eqvAll (nI l) (nI k)) = decide (a :: l = b :: k)
    rw [eqvAll_ints l k]
    by_cases h : a = b
    · subst h
      by_cases h2 : l = k
      · subst h2; simp
      · simp [h2]
    · simp [h]
theorem eqv_ints (l k : List Int) : PyData.eqv (dI l) (dI k) = decide (l = k) := eqvAll_ints l k
theorem e_eqL {l k : List Int} (ha : EvS c ta τ m (dI l)) (hb : EvS c tb τ m (dI k)) : EvS c (tOp (rEqD K) ta tb) τ m (.bool (decide (l = k))) := (e_eqD ha hb (shaped_ints l) (shaped_ints k)).is (by rw [eqv_ints])
theorem e_neL {l k : List Int} (ha : EvS c ta τ m (dI l)) (hb : EvS c tb τ m (dI k)) : EvS c (tOp (rNeD K) ta tb) τ m (.bool (!decide (l = k))) := (e_neD ha hb (shaped_ints l) (shaped_ints k)).is (by rw [eqv_ints])
/-- xs[i] -/
theorem e_ix {z : Int} (ha : EvQ c ta τ m ds) (hb : EvS c tb τ m (.int z)) (h0 : 0 ≤ z) (hd : ds[z.toNat]? = some d) : EvS c (tOp (rIxL K) ta tb) τ m d := fun L H σ I Q q =>
  ha L H σ I _ fun p xs H1 e1 h1 x1 => hb L H1 σ (I.mono e1) _ fun w H2 e2 h2 => by
    obtain rfl : w = .int z := h2
    obtain ⟨v, hv, dv⟩ := dmA_get x1 hd
    exact ⟨p, xs, z, v, rfl, rfl, .inl (.inl (e2 _ _ h1)), at_of (by omega) hv, q v H2 (e1.trans e2) (dm_mono (hid_mono e2) _ _ dv)⟩
theorem e_ixI {l : List Int} {z : Int} (ha : EvQ c ta τ m (nI l)) (hb : EvS c tb τ m (.int z)) (h0 : 0 ≤ z) (hd : z < l.length) : EvS c (tOp (rIxL K) ta tb) τ m (.int (l.getD z.toNat 0)) :=
  e_ix ha hb h0 (by
    have h : z.toNat < l.length := by omega
    rw [List.getElem?_map, List.getD_eq_getElem?_getD, List.getElem?_eq_getElem h] <;> rfl)
theorem e_ixLast (ha : EvQ c ta τ m ds) (hb : EvS c tb τ m (.int (-1))) (hd : ds[ds.length - 1]? = some d) : EvS c (tOp (rIxL K) ta tb) τ m d := fun L H σ I Q q =>
  ha L H σ I _ fun p xs H1 e1 h1 x1 => hb L H1 σ (I.mono e1) _ fun w H2 e2 h2 => by
    obtain rfl : w = .int (-1) := h2
    obtain ⟨v, hv, dv⟩ := dmA_get x1 hd
    have hn : 0 < xs.length := by
      have := (List.getElem?_eq_some_iff.mp hv).1
      omega
    have he := dmA_length x1
    refine ⟨p, xs, -1, v, rfl, rfl, .inl (.inl (e2 _ _ h1)), ?_, q v H2 (e1.trans e2) (dm_mono (hid_mono e2) _ _ dv)⟩
    unfold atI ixN
    rw [if_neg (by omega), if_pos (by omega)]
    show xs[(-1 + (xs.length : Int)).toNat]? = some v
    rw [show (-1 + (xs.length : Int)).toNat = ds.length - 1 by omega]
    exact hv
/-- slices -/
def cutD (xs : List PyData) (lo hi : Option Int) : List PyData := (xs.drop (HT.sIx xs.length 0 lo)).take (HT.sIx xs.length xs.length hi - HT.sIx xs.length 0 lo)
theorem cut_dm {H : Hp} {ds : List PyData} {xs : List V} (h : DmA H ds xs) (lo hi : Option Int) : DmA H (cutD ds lo hi) (cutV xs lo hi) := by
  unfold cutD cutV
  rw [dmA_length h]
  exact dmA_take _ (dmA_drop _ h)
theorem o_none : EvO c tNoPart τ m none := fun L H σ I Q q => q H (Ex.refl H)
theorem o_some {i : Int} (h : EvS c te τ m (.int i)) : EvO c (tPart te) τ m (some i) := fun L H σ I Q q => h L H σ I _ fun v H2 e h2 => ⟨i, h2, q H2 e⟩
theorem n_slice {tl th : TO} {lo hi : Option Int} (h : EvQ c te τ m ds) (h1 : EvO c tl τ m lo) (h2 : EvO c th τ m hi) : EvN c (tSl (rSlL K) te tl th) τ m (cutD ds lo hi) := fun L H σ I Q q =>
  h L H σ I _ fun p xs H1 e1 k1 x1 => h1 L H1 σ (I.mono e1) _ fun H2 e2 => h2 L H2 σ ((I.mono e1).mono e2) _ fun H3 e3 => by
    have e : Ex H H3 := (e1.trans e2).trans e3
    refine ⟨p, xs, rfl, .inl (.inl (e3 _ _ (e2 _ _ k1))), fun r hr => ?_⟩
    have er : Ex H3 (upd H3 r (.lst (cutV xs lo hi))) := Evl.Ex.new hr
    exact q r _ _ (Evl.fresh_back e hr) (e.trans er) upd_same (cut_dm (dmA_mono (hid_cons (Evl.fresh_back (e2.trans e3) hr) ((e2.trans e3).trans er)) _ _ x1) lo hi)
/-- arguments -/
theorem a_nil : EvA c tNil τ m [] := fun L H σ I Q q => q [] H (Ex.refl H) rfl
theorem a_cons {tr : TA} (h : EvS c te τ m d) (hr : EvA c tr τ m ds) : EvA c (tCons te tr) τ m (d :: ds) := fun L H σ I Q q =>
  h L H σ I _ fun v H1 e1 k1 => hr L H1 σ (I.mono e1) _ fun vs H2 e2 k2 => q _ H2 (e1.trans e2) ⟨v, vs, rfl, dm_mono (hid_mono e2) _ _ k1, k2⟩
theorem w_nil : EvW c tNil τ m [] := fun L H σ I Q q => q [] H (Ex.refl H) rfl
theorem w_cons {tr : TA} (h : EvS c te τ m d) (hr : EvW c tr τ m ds) : EvW c (tCons te tr) τ m (d :: ds) := fun L H σ I Q q =>
  h L H σ I _ fun v H1 e1 k1 => hr L H1 σ (I.mono e1) _ fun vs H2 e2 k2 => q _ H2 (e1.trans e2) ⟨v, vs, rfl, dm_mono (hid_ex.trans e2) _ _ k1, k2⟩
theorem w_consQ {tr : TA} (h : EvQ c te τ m es) (hr : EvW c tr τ m ds) : EvW c (tCons te tr) τ m (.list es :: ds) := fun L H σ I Q q =>
  h L H σ I _ fun p xs H1 e1 k1 x1 => hr L H1 σ (I.mono e1) _ fun vs H2 e2 k2 => q _ H2 (e1.trans e2) ⟨_, vs, rfl, ⟨p, xs, rfl, e2 _ _ k1, dmA_mono (hid_ex.trans e2) _ _ x1⟩, k2⟩
theorem EvA.w {ta : TA} (h : EvA c ta τ m ds) : EvW c ta τ m ds := fun L H σ I Q q => h L H σ I Q fun vs H2 e k => q vs H2 e (dmA_mono hid_ex _ _ k)
/-- displays -/
theorem n_lst {ta : TA} (h : EvA c ta τ m ds) (hl : ds.length ≤ 100000) : EvN c (tLst ta) τ m ds := fun L H σ I Q q => h L H σ I _ fun vs H1 e1 k1 =>
  ⟨sz_of (by rw [dmA_length k1]; exact hl), fun p hp => q p vs _ (Evl.fresh_back e1 hp) (e1.trans (Evl.Ex.new hp)) upd_same (dmA_mono (hid_cons hp (Evl.Ex.new hp)) _ _ k1)⟩
theorem e_tup {ta : TA} (h : EvA c ta τ m ds) (hl : ds.length ≤ 100000) : EvS c (tTup ta) τ m (.tuple ds) := fun L H σ I Q q => h L H σ I _ fun vs H1 e1 k1 =>
  ⟨sz_of (by rw [dmA_length k1]; exact hl), fun p hp => q _ _ (e1.trans (Evl.Ex.new hp)) ⟨p, vs, rfl, by rw [hid_at ((I.mono e1).new hp)]; exact upd_same, dmA_mono (hid_mono (Evl.Ex.new hp)) _ _ k1⟩⟩
/-- built-ins -/
theorem e_len (h : EvQ c te τ m ds) : EvS c (tCB (rLenS K) (tCons te tNil)) τ m (.int (ds.length : Int)) := fun L H σ I Q q => h L H σ I _ fun p xs H1 e1 k1 x1 =>
  ⟨p, xs, rfl, .inl (.inl (.inl k1)), q _ H1 e1 (by rw [dmA_length x1] <;> rfl)⟩
theorem n_list (h : EvQ c te τ m ds) : EvN c (tCB (rListS K) (tCons te tNil)) τ m ds := fun L H σ I Q q => h L H σ I _ fun p xs H1 e1 k1 x1 =>
  ⟨p, xs, rfl, .inl (.inl (.inl k1)), fun l hl => q l xs _ (Evl.fresh_back e1 hl) (e1.trans (Evl.Ex.new hl)) upd_same (dmA_mono (hid_cons hl (Evl.Ex.new hl)) _ _ x1)⟩
def rMin2 : List V → Hp → VK → Prop := fun xs H Q => ∃ i j, xs = [.int i, .int j] ∧ Q (.int (if j < i then j else i)) H
def rMax2 : List V → Hp → VK → Prop := fun xs H Q => ∃ i j, xs = [.int i, .int j] ∧ Q (.int (if j > i then j else i)) H
def rAbs : List V → Hp → VK → Prop := fun xs H Q => ∃ i, xs = [.int i] ∧ Q (.int (if i < 0 then -i else i)) H
def rInt1 : List V → Hp → VK → Prop := fun xs H Q => (∃ i, xs = [.int i] ∧ Q (.int i) H) ∨ ∃ k, xs = [.bl k] ∧ Q (.int (if k then 1 else 0)) H
theorem e_min2 {i j : Int} (ha : EvS c ta τ m (.int i)) (hb : EvS c tb τ m (.int j)) : EvS c (tCB rMin2 (tCons ta (tCons tb tNil))) τ m (.int (min i j)) := fun L H σ I Q q =>
  e_two ha hb L H σ I fun v w H2 e h1 h2 => ⟨i, j, by rw [show v = .int i from h1, show w = .int j from h2], q _ H2 e (by
    show V.int _ = V.int (min i j)
    congr 1
    omega)⟩
theorem e_max2 {i j : Int} (ha : EvS c ta τ m (.int i)) (hb : EvS c tb τ m (.int j)) : EvS c (tCB rMax2 (tCons ta (tCons tb tNil))) τ m (.int (max i j)) := fun L H σ I Q q =>
  e_two ha hb L H σ I fun v w H2 e h1 h2 => ⟨i, j, by rw [show v = .int i from h1, show w = .int j from h2], q _ H2 e (by
    show V.int _ = V.int (max i j)
    congr 1
    omega)⟩
theorem e_abs {i : Int} (ha : EvS c ta τ m (.int i)) : EvS c (tCB rAbs (tCons ta tNil)) τ m (.int (i.natAbs : Int)) := fun L H σ I Q q =>
  ha L H σ I _ fun v H2 e h1 => ⟨i, by rw [show v = .int i from h1], q _ H2 e (by
    show V.int _ = V.int (i.natAbs : Int)
    congr 1
    omega)⟩
theorem e_intB {b : Bool} (ha : EvS c ta τ m (.bool b)) : EvS c (tCB rInt1 (tCons ta tNil)) τ m (.int (if b = true then 1 else 0)) := fun L H σ I Q q =>
  ha L H σ I _ fun v H2 e h1 => .inr ⟨b, by rw [show v = .bl b from h1], q _ H2 e rfl⟩
theorem e_sum {l : List Int} (ha : EvQ c ta τ m (nI l)) : EvS c (tCB (rSum K) (tCons ta tNil)) τ m (.int l.sum) := fun L H σ I Q q => ha L H σ I _ fun p xs H1 e1 k1 x1 => by
  have e : xs = l.map V.int := dmA_ints x1
  subst e
  exact ⟨p, l, rfl, .inl (.inl k1), q _ H1 e1 rfl⟩
theorem n_cat (ha : EvQ c ta τ m ds) (hb : EvQ c tb τ m es) (hl : ds.length + es.length ≤ 100000) : EvN c (tOp rCat ta tb) τ m (ds ++ es) := fun L H σ I Q q =>
  ha L H σ I _ fun p xs H1 e1 k1 x1 => hb L H1 σ (I.mono e1) _ fun p2 ys H2 e2 k2 x2 => ⟨p, p2, xs, ys, rfl, rfl, e2 _ _ k1, k2, sz_of (by rw [dmA_length x1, dmA_length x2]; exact hl), fun r hr =>
    q r _ _ (Evl.fresh_back (e1.trans e2) hr) ((e1.trans e2).trans (Evl.Ex.new hr)) upd_same
      (dmA_append (dmA_mono (hid_cons (Evl.fresh_back e2 hr) (e2.trans (Evl.Ex.new hr))) _ _ x1) (dmA_mono (hid_cons hr (Evl.Ex.new hr)) _ _ x2))⟩
theorem inV_ints (x : Int) : ∀ l : List Int, inV (.int x) (l.map V.int) = l.contains x
  | [] => rfl
  | a :: l => by
    have ih := inV_ints x l
    show (a == x || inV (.int x) (l.map V.int)) = (a :: l).contains x
    rw [ih, List.contains_cons]
    congr 1
    rw [Bool.eq_iff_iff]
    simp only [beq_iff_eq]
    exact eq_comm
theorem flat_ints : ∀ l : List Int, (l.map V.int).all flatV = true
  | [] => rfl
  | _ :: l => flat_ints l
theorem e_in {x : Int} {l : List Int} (ha : EvS c ta τ m (.int x)) (hb : EvQ c tb τ m (nI l)) : EvS c (tOp (rIn K false) ta tb) τ m (.bool (l.contains x)) := fun L H σ I Q q =>
  ha L H σ I _ fun v H1 e1 k1 => hb L H1 σ (I.mono e1) _ fun p xs H2 e2 k2 x2 => by
    obtain rfl : v = .int x := k1
    obtain rfl : xs = l.map V.int := dmA_ints x2
    exact ⟨p, _, rfl, .inl (.inl (.inl k2)), rfl, flat_ints l, q _ H2 (e1.trans e2) (by rw [inV_ints] <;> rfl)⟩
theorem e_notin {x : Int} {l : List Int} (ha : EvS c ta τ m (.int x)) (hb : EvQ c tb τ m (nI l)) : EvS c (tOp (rIn K true) ta tb) τ m (.bool (!l.contains x)) := fun L H σ I Q q =>
  ha L H σ I _ fun v H1 e1 k1 => hb L H1 σ (I.mono e1) _ fun p xs H2 e2 k2 x2 => by
    obtain rfl : v = .int x := k1
    obtain rfl : xs = l.map V.int := dmA_ints x2
    exact ⟨p, _, rfl, .inl (.inl (.inl k2)), rfl, flat_ints l, q _ H2 (e1.trans e2) (by rw [inV_ints] <;> rfl)⟩
/-- list(range(n)) -/
theorem n_lstRg {n : Int} (h : EvS c te τ m (.int n)) (hn : n ≤ 16777216) (h0 : -100 ≤ n) : EvN c (tLstRg (tRg1 te)) τ m (nI ((List.range n.toNat).map fun (i : Nat) => (i : Int))) := fun L H σ I Q q =>
  h L H σ I _ fun v H1 e1 k1 => ⟨n, k1, ⟨by omega, by omega, by omega, by omega, by omega⟩, fun p hp => q p _ _ (Evl.fresh_back e1 hp) (e1.trans (Evl.Ex.new hp)) upd_same (by
    have e : rgV 0 n = ((List.range n.toNat).map fun (i : Nat) => (i : Int)).map V.int := by
      unfold rgV
      rw [List.map_map, Int.sub_zero]
      refine List.map_congr_left fun i _ => ?_
      show V.int (0 + (i : Int)) = V.int (i : Int)
      rw [Int.zero_add]
    rw [e]
    exact dmA_ofInts _)⟩
end

/-! ### calls of own defs -/
/-- a def that gives data for data, and leaves all as it was -/
def spD (R : List PyData → PyData → Prop) : Sp := fun vs H Q _ => ∃ L ds d, (∀ b ∈ L, ∃ o, H b = some o) ∧ DmA (hid L H) ds vs ∧ R ds d ∧ ∀ v H', Ex H H' → Dm (hid L H') d v → Q v H'
/-- numbers, truth, nothing -/
def flatD : PyData → Bool
  | .none => true
  | .bool _ => true
  | .int _ => true
  | _ => false
theorem flat_dm {H H' : Hp} : ∀ {d : PyData} {v : V}, flatD d = true → Dm H d v → Dm H' d v
  | .none, _, _, h => h
  | .bool _, _, _, h => h
  | .int _, _, _, h => h
  | .str _, _, f, _ => nomatch f
  | .list _, _, f, _ => nomatch f
  | .tuple _, _, f, _ => nomatch f
  | .dict _, _, f, _ => nomatch f
section
variable {c : Cc} {τ : List SD} {m : Dk} {ds : List PyData} {d : PyData} {ta : TA} {R : List PyData → PyData → Prop} {E : XK}
theorem e_call (h : EvA c ta τ m ds) (hr : R ds d) : EvS c (tCall (spD R) [] E ta) τ m d := fun L H σ I Q q => h L H σ I _ fun vs H1 e1 k1 =>
  ⟨L, ds, d, (I.mono e1).dom, by rw [List.append_nil]; exact k1, hr, fun v H' e2 k2 => q v H' (e1.trans e2) k2⟩
theorem e_callW (h : EvW c ta τ m ds) (hr : R ds d) (hf : flatD d = true) : EvS c (tCall (spD R) [] E ta) τ m d := fun L H σ I Q q => h L H σ I _ fun vs H1 e1 k1 =>
  ⟨[], ds, d, (fun b z => absurd z (by simp)), by rw [List.append_nil]; exact dmA_mono (fun b o z => by rw [hid_at (by simp)]; exact z) _ _ k1, hr, fun v H' e2 k2 => q v H' (e1.trans e2) (flat_dm hf k2)⟩
end

/-! ### changing the state -/
section
variable {c : Cc} {L : List Addr} {H H' : Hp} {σ : L2.St} {τ : List SD} {m : Dk}
theorem get_set {α : Type} {l : List α} {i j : Nat} {x y : α} (h : (l.set i x)[j]? = some y) : (j = i ∧ y = x) ∨ (j ≠ i ∧ l[j]? = some y) := by
  by_cases e : j = i
  · subst e
    have hj : j < l.length := by
      have := (List.getElem?_eq_some_iff.mp h).1
      rw [List.length_set] at this
      exact this
    rw [List.getElem?_set_self hj] at h
    exact .inl ⟨rfl, (Option.some.inj h).symm⟩
  · rw [List.getElem?_set_ne (Ne.symm e)] at h
    exact .inr ⟨e, h⟩
/-- a slot is given data | forgotten -/
theorem Sl.setV (I : Sl c L H σ τ m) {i : Nat} {d : PyData} {v : V} (h : Dm (hid L H) d v) : Sl c L H (σ.set i (some v)) (τ.set i (.val d)) m where
  len := by rw [List.length_set, List.length_set, I.len]
  base := I.base
  lzero := I.lzero
  wf := I.wf
  dom := I.dom
  sub := I.sub
  slot := fun j s x h1 h2 => by
    rcases get_set h1 with ⟨rfl, rfl⟩ | ⟨n1, h1⟩
    · rcases get_set h2 with ⟨_, rfl⟩ | ⟨n2, _⟩
      · exact ⟨v, rfl, h⟩
      · exact absurd rfl n2
    · rcases get_set h2 with ⟨n2, _⟩ | ⟨_, h2⟩
      · exact absurd n2 n1
      · exact I.slot j s x h1 h2
  dist := fun j k es fs l h1 h2 h3 h4 => by
    rcases get_set h1 with ⟨_, z⟩ | ⟨n1, h1⟩
    · cases z
    · rcases get_set h2 with ⟨_, z⟩ | ⟨n2, h2⟩
      · cases z
      · rcases get_set h3 with ⟨z, _⟩ | ⟨_, h3⟩
        · exact absurd z n1
        · rcases get_set h4 with ⟨z, _⟩ | ⟨_, h4⟩
          · exact absurd z n2
          · exact I.dist j k es fs l h1 h2 h3 h4
  dk := I.dk
theorem Sl.setN (I : Sl c L H σ τ m) {i : Nat} {x : Option V} : Sl c L H (σ.set i x) (τ.set i .no) m where
  len := by rw [List.length_set, List.length_set, I.len]
  base := I.base
  lzero := I.lzero
  wf := I.wf
  dom := I.dom
  sub := I.sub
  slot := fun j s x h1 h2 => by
    rcases get_set h1 with ⟨rfl, rfl⟩ | ⟨n1, h1⟩
    · trivial
    · rcases get_set h2 with ⟨n2, _⟩ | ⟨_, h2⟩
      · exact absurd n2 n1
      · exact I.slot j s x h1 h2
  dist := fun j k es fs l h1 h2 h3 h4 => by
    rcases get_set h1 with ⟨_, z⟩ | ⟨n1, h1⟩
    · cases z
    · rcases get_set h2 with ⟨_, z⟩ | ⟨n2, h2⟩
      · cases z
      · rcases get_set h3 with ⟨z, _⟩ | ⟨_, h3⟩
        · exact absurd z n1
        · rcases get_set h4 with ⟨z, _⟩ | ⟨_, h4⟩
          · exact absurd z n2
          · exact I.dist j k es fs l h1 h2 h3 h4
  dk := I.dk
/-- a new address is hidden too -/
theorem Sl.hide (I : Sl c L H σ τ m) {p : Addr} {o : HO} (hp : H p = none) (e : Ex H H') (h : H' p = some o) : Sl c (p :: L) H' σ τ m where
  len := I.len
  base := I.base.trans e
  lzero := fun b z => List.mem_cons_of_mem _ (I.lzero b z)
  wf := I.wf
  dom := fun b z => by
    rcases List.mem_cons.mp z with rfl | z
    · exact ⟨o, h⟩
    · obtain ⟨o', q⟩ := I.dom b z
      exact ⟨o', e _ _ q⟩
  sub := fun b z => by
    rcases List.mem_cons.mp z with rfl | z
    · exact .inr (Evl.fresh_back I.base hp)
    · exact I.sub b z
  slot := fun j s x h1 h2 => by
    have k := I.slot j s x h1 h2
    cases s with
    | no => trivial
    | val d =>
      obtain ⟨v, rfl, k⟩ := k
      exact ⟨v, rfl, dm_mono (hid_cons hp e) _ _ k⟩
    | own ds =>
      obtain ⟨l, xs, rfl, k1, k2, k3, k4, k5⟩ := k
      exact ⟨l, xs, rfl, List.mem_cons_of_mem _ k1, k2, k3, e _ _ k4, dmA_mono (hid_cons hp e) _ _ k5⟩
    | desk => exact k
  dist := I.dist
  dk := fun a z => by
    obtain ⟨k1, k2, dx, pc, pl, k3, k4, k5⟩ := I.dk a z
    exact ⟨List.mem_cons_of_mem _ k1, k2, dx, pc, pl, e _ _ k3, dm_mono (hid_cons hp e) _ _ k4, dm_mono (hid_cons hp e) _ _ k5⟩
/-- a new list is one's own -/
theorem Sl.setO (I : Sl c L H σ τ m) {i : Nat} {p : Addr} {ds : List PyData} {xs : List V} (hp : H p = none) (e : Ex H H') (h : H' p = some (.lst xs)) (hx : DmA (hid (p :: L) H') ds xs) (hi : c.a ≠ some p) :
    Sl c (p :: L) H' (σ.set i (some (.ref p))) (τ.set i (.own ds)) m :=
  have J := I.hide hp e h
  { len := by rw [List.length_set, List.length_set, I.len]
    base := J.base
    lzero := J.lzero
    wf := J.wf
    dom := J.dom
    sub := J.sub
    slot := fun j s x h1 h2 => by
      rcases get_set h1 with ⟨rfl, rfl⟩ | ⟨n1, h1⟩
      · rcases get_set h2 with ⟨_, rfl⟩ | ⟨n2, _⟩
        · exact ⟨p, xs, rfl, List.mem_cons_self, Evl.fresh_back I.base hp, hi, h, hx⟩
        · exact absurd rfl n2
      · rcases get_set h2 with ⟨n2, _⟩ | ⟨_, h2⟩
        · exact absurd n2 n1
        · exact J.slot j s x h1 h2
    dist := fun j k es fs l h1 h2 h3 h4 => by
      have old : ∀ (j : Nat) (es : List PyData), j ≠ i → τ[j]? = some (.own es) → σ[j]? = some (some (.ref p)) → False := fun j es hj q1 q2 => by
        obtain ⟨l', xs', z, k1, _⟩ := I.slot j _ _ q1 q2
        obtain rfl : p = l' := V.ref.inj (Option.some.inj z)
        exact I.new hp k1
      rcases get_set h1 with ⟨e1, _⟩ | ⟨n1, g1⟩
      · rcases get_set h2 with ⟨e2, _⟩ | ⟨n2, g2⟩
        · rw [e1, e2]
        · rcases get_set h3 with ⟨_, z⟩ | ⟨z, _⟩
          · obtain rfl : l = p := V.ref.inj (Option.some.inj z)
            rcases get_set h4 with ⟨z, _⟩ | ⟨_, g4⟩
            · exact absurd z n2
            · exact (old k fs n2 g2 g4).elim
          · exact absurd e1 z
      · rcases get_set h3 with ⟨z, _⟩ | ⟨_, g3⟩
        · exact absurd z n1
        · rcases get_set h2 with ⟨e2, _⟩ | ⟨n2, g2⟩
          · rcases get_set h4 with ⟨_, z⟩ | ⟨z, _⟩
            · obtain rfl : l = p := V.ref.inj (Option.some.inj z)
              exact (old j es n1 g1 g3).elim
            · exact absurd e2 z
          · rcases get_set h4 with ⟨z, _⟩ | ⟨_, g4⟩
            · exact absurd z n2
            · exact I.dist j k es fs l g1 g2 g3 g4
    dk := J.dk }
theorem Sl.na (I : Sl c L H σ τ m) {p : Addr} (hp : H p = none) : c.a ≠ some p := fun z => by
  obtain ⟨k, _⟩ := I.dk p z
  exact I.new hp k
/-- an own list is changed -/
theorem Sl.wrO (I : Sl c L H σ τ m) {i : Nat} {l : Addr} {ds es : List PyData} {ys : List V} (h1 : τ[i]? = some (.own ds)) (h2 : σ[i]? = some (some (.ref l))) (hy : DmA (hid L H) es ys) :
    Sl c L (upd H l (.lst ys)) σ (τ.set i (.own es)) m := by
  obtain ⟨l', xs, z, k1, k2, k3, k4, k5⟩ := I.slot i _ _ h1 h2
  obtain rfl : l = l' := V.ref.inj (Option.some.inj z)
  have hh : hid L (upd H l (.lst ys)) = hid L H := hid_upd k1
  exact {
    len := by rw [List.length_set, I.len]
    base := Evl.Ex.mut I.base k2
    lzero := I.lzero
    wf := I.wf
    dom := fun b z => by
      by_cases e : b = l
      · subst e
        exact ⟨_, upd_same⟩
      · obtain ⟨o, q⟩ := I.dom b z
        exact ⟨o, by rw [upd_ne e]; exact q⟩
    sub := I.sub
    slot := fun j s x q1 q2 => by
      rcases get_set q1 with ⟨rfl, rfl⟩ | ⟨n1, q1⟩
      · rw [h2] at q2
        obtain rfl := Option.some.inj q2
        exact ⟨l, ys, rfl, k1, k2, k3, upd_same, by rw [hh]; exact hy⟩
      · have k := I.slot j s x q1 q2
        cases s with
        | no => trivial
        | val d =>
          obtain ⟨v, rfl, k⟩ := k
          exact ⟨v, rfl, by rw [hh]; exact k⟩
        | own es' =>
          obtain ⟨r, zs, rfl, r1, r2, r3, r4, r5⟩ := k
          have hn : r ≠ l := fun e => by
            subst e
            exact n1 (I.dist j i _ _ r q1 h1 q2 h2)
          exact ⟨r, zs, rfl, r1, r2, r3, by rw [upd_ne hn]; exact r4, by rw [hh]; exact r5⟩
        | desk => exact k
    dist := fun j k es' fs r q1 q2 q3 q4 => by
      have own_of : ∀ {j : Nat} {es' : List PyData}, (τ.set i (.own es))[j]? = some (.own es') → ∃ es'', τ[j]? = some (.own es'') := fun {j es'} q => by
        rcases get_set q with ⟨rfl, _⟩ | ⟨_, q⟩
        · exact ⟨ds, h1⟩
        · exact ⟨es', q⟩
      obtain ⟨_, q1⟩ := own_of q1
      obtain ⟨_, q2⟩ := own_of q2
      exact I.dist j k _ _ r q1 q2 q3 q4
    dk := fun a z => by
      obtain ⟨r1, r2, dx, pc, pl, r3, r4, r5⟩ := I.dk a z
      have hn : a ≠ l := fun e => k3 (by rw [z, e])
      exact ⟨r1, r2, dx, pc, pl, by rw [upd_ne hn]; exact r3, by rw [hh]; exact r4, by rw [hh]; exact r5⟩ }
/-- what is still known of the slots -/
def WkL : List SD → List SD → Prop
  | [], [] => True
  | x :: xs, y :: ys => (y = .no ∨ x = y) ∧ WkL xs ys
  | _, _ => False
theorem wk_get : ∀ {τ τ' : List SD}, WkL τ τ' → τ.length = τ'.length ∧ ∀ (i : Nat) (s : SD), τ'[i]? = some s → s = .no ∨ τ[i]? = some s
  | [], [], _ => ⟨rfl, fun i s h => by simp at h⟩
  | x :: xs, y :: ys, h => by
    obtain ⟨h1, h2⟩ := wk_get h.2
    refine ⟨by rw [List.length_cons, List.length_cons, h1], fun i s q => ?_⟩
    cases i with
    | zero =>
      obtain rfl : y = s := by simpa using q
      rcases h.1 with z | z
      · exact .inl z
      · exact .inr (by rw [z] <;> rfl)
    | succ i => exact h2 i s (by simpa using q)
  | [], _ :: _, h => h.elim
  | _ :: _, [], h => h.elim
theorem wk_refl : ∀ τ : List SD, WkL τ τ
  | [] => trivial
  | _ :: τ => ⟨.inr rfl, wk_refl τ⟩
theorem Sl.wk {τ' : List SD} (I : Sl c L H σ τ m) (h : WkL τ τ') : Sl c L H σ τ' m := by
  obtain ⟨h1, h2⟩ := wk_get h
  refine ⟨I.len.trans h1, I.base, I.lzero, I.wf, I.dom, I.sub, fun i s x q1 q2 => ?_, fun i j ds es l q1 q2 q3 q4 => ?_, I.dk⟩
  · rcases h2 i s q1 with rfl | q
    · trivial
    · exact I.slot i s x q q2
  · rcases h2 i _ q1 with z | r1
    · cases z
    · rcases h2 j _ q2 with z | r2
      · cases z
      · exact I.dist i j ds es l r1 r2 q3 q4
/-- an own list becomes plain data -/
theorem Sl.plain (I : Sl c L H σ τ m) {i : Nat} {ds : List PyData} (h : τ[i]? = some (.own ds)) : ∃ L', Sl c L' H σ (τ.set i (.val (.list ds))) m := by
  obtain ⟨x, hx, l, xs, rfl, k1, k2, k3, k4, k5⟩ := I.get h
  have sub : ∀ b ∈ L.filter (fun b => decide (b ≠ l)), b ∈ L := fun b z => (List.mem_filter.mp z).1
  have ex : Ex (hid L H) (hid (L.filter fun b => decide (b ≠ l)) H) := hid_sub sub
  have hl : l ∉ L.filter (fun b => decide (b ≠ l)) := fun z => by
    have := (List.mem_filter.mp z).2
    simp at this
  refine ⟨L.filter fun b => decide (b ≠ l), by rw [List.length_set, I.len], I.base, fun b z => List.mem_filter.mpr ⟨I.lzero b z, ?_⟩, I.wf, fun b z => I.dom b (sub b z), fun b z => I.sub b (sub b z), fun j s y q1 q2 => ?_, fun j k es fs r q1 q2 q3 q4 => ?_, fun a z => ?_⟩
  · refine decide_eq_true fun e => ?_
    rcases I.wf b z with ⟨o, q⟩ | q
    · rw [e, k2] at q; cases q
    · exact k3 (by rw [q, e])
  · rcases get_set q1 with ⟨rfl, rfl⟩ | ⟨n1, q1⟩
    · rw [hx] at q2
      obtain rfl := Option.some.inj q2
      exact ⟨_, rfl, l, xs, rfl, by rw [hid_at hl]; exact k4, dmA_mono ex _ _ k5⟩
    · have k := I.slot j s y q1 q2
      cases s with
      | no => trivial
      | val d =>
        obtain ⟨v, rfl, k⟩ := k
        exact ⟨v, rfl, dm_mono ex _ _ k⟩
      | own es' =>
        obtain ⟨r, zs, rfl, r1, r2, r3, r4, r5⟩ := k
        have hn : r ≠ l := fun e => by
          subst e
          exact n1 (I.dist j i _ _ r q1 h q2 hx)
        exact ⟨r, zs, rfl, List.mem_filter.mpr ⟨r1, decide_eq_true hn⟩, r2, r3, r4, dmA_mono ex _ _ r5⟩
      | desk => exact k
  · rcases get_set q1 with ⟨_, z⟩ | ⟨n1, q1⟩
    · cases z
    · rcases get_set q2 with ⟨_, z⟩ | ⟨n2, q2⟩
      · cases z
      · exact I.dist j k es fs r q1 q2 q3 q4
  · obtain ⟨r1, r2, dx, pc, pl, r3, r4, r5⟩ := I.dk a z
    have hn : a ≠ l := fun e => k3 (by rw [z, e])
    exact ⟨List.mem_filter.mpr ⟨r1, decide_eq_true hn⟩, r2, dx, pc, pl, r3, dm_mono ex _ _ r4, dm_mono ex _ _ r5⟩
end
end CE
namespace CE
open PySem PySem.Spec PyProof.Rows L2
open Evl (Ex rLenS rListS sz_of sz_lt)
/-! ### comprehensions -/
section
variable {c : Cc} {L : List Addr} {H H' : Hp} {σ : L2.St} {τ : List SD} {m : Dk}
def wipeT (τ : List SD) : List Nat → List SD
  | [] => τ
  | v :: vs => (wipeT τ vs).set v .no
theorem Sl.wipe (I : Sl c L H σ τ m) : ∀ vs : List Nat, Sl c L H (L2.wipe σ vs) (wipeT τ vs) m
  | [] => I
  | v :: vs => (I.wipe vs).setN
theorem set_comm' {α : Type} {l : List α} {i j : Nat} {x y : α} (h : i ≠ j) : (l.set i x).set j y = (l.set j y).set i x := List.set_comm x y h
theorem wipe_put {σ : L2.St} {j : Nat} {x : Option V} : ∀ {vs : List Nat}, j ∈ vs → L2.wipe (σ.set j x) vs = L2.wipe σ vs
  | [], h => by simp at h
  | v :: vs, h => by
    show (L2.wipe (σ.set j x) vs).set v none = (L2.wipe σ vs).set v none
    by_cases hv : j ∈ vs
    · rw [wipe_put hv]
    · have e : j = v := by
        rcases List.mem_cons.mp h with z | z
        · exact z
        · exact absurd z hv
      subst e
      have : ∀ {ws : List Nat}, j ∉ ws → L2.wipe (σ.set j x) ws = (L2.wipe σ ws).set j x := fun {ws} => by
        induction ws with
        | nil => intro _; rfl
        | cons w ws ih =>
          intro hw
          have hw' : j ≠ w ∧ j ∉ ws := by simpa using hw
          show (L2.wipe (σ.set j x) ws).set w none = ((L2.wipe σ ws).set w none).set j x
          rw [ih hw'.2, List.set_comm _ _ hw'.1]
      rw [this hv, List.set_set]
theorem wipe_twice {σ : L2.St} : ∀ {ws vs : List Nat}, (∀ j ∈ ws, j ∈ vs) → L2.wipe (L2.wipe σ ws) vs = L2.wipe σ vs
  | [], _, _ => rfl
  | w :: ws, vs, h => by
    show L2.wipe ((L2.wipe σ ws).set w none) vs = _
    rw [wipe_put (h w List.mem_cons_self)]
    exact wipe_twice fun j hj => h j (List.mem_cons_of_mem _ hj)
/-- the data that the turns below n give -/
def givenD (n : Nat) (f : Nat → Bool) (v : Nat → PyData) : List PyData := ((List.range n).filter f).map v
theorem givenD_yes {n : Nat} {f : Nat → Bool} {v : Nat → PyData} (h : f n = true) : givenD (n + 1) f v = givenD n f v ++ [v n] := by
  unfold givenD
  rw [List.range_succ, List.filter_append, List.map_append, List.filter_cons, if_pos h] <;> rfl
theorem givenD_no {n : Nat} {f : Nat → Bool} {v : Nat → PyData} (h : f n = false) : givenD (n + 1) f v = givenD n f v := by
  unfold givenD
  rw [List.range_succ, List.filter_append, List.map_append, List.filter_cons, if_neg (by rw [h]; decide)]
  show _ ++ [] = _
  rw [List.append_nil]
theorem givenD_len (n : Nat) (f : Nat → Bool) (v : Nat → PyData) : (givenD n f v).length ≤ n := by
  unfold givenD
  rw [List.length_map]
  have h := List.length_filter_le f (List.range n)
  rw [List.length_range] at h
  exact h
/-- what stands in a comprehension's turn -/
structure LcW (H1 : Hp) (L : List Addr) (D : Addr) (f : Nat → Bool) (v : Nat → PyData) (i : Nat) (H : Hp) : Prop where
  ex : Ex H1 H
  new : H1 D = none
  lst : ∃ xs, H D = some (.lst xs) ∧ DmA (hid (D :: L) H) (givenD i f v) xs
/-- how the target takes what the walk gives: from the block's state to the turn's -/
def Takes1 (c : Cc) (m : Dk) (vs : List Nat) (τ : List SD) (H1 : Hp) (L0 L : List Addr) (n : Nat) (Y : Nat → Hp → V → Hp → Prop) (g : TG) (τb : Nat → List SD) : Prop :=
  ∀ (i : Nat) (x : V) (σ : L2.St) (H H' : Hp), i < n → Ex H1 H → Ex (hid L0 H1) (hid L H) → Sl c L H σ τ m → Y i H x H' → ∀ P : L2.St → Hp → Prop,
    (∀ σ2 H2, Ex H H2 → Sl c L H2 σ2 (τb i) m → L2.wipe σ2 vs = L2.wipe σ vs → P σ2 H2) → g x σ H' P
theorem lc_gen {J : It} {n : Nat} {G : Hp → Prop} {Y : Nat → Hp → V → Hp → Prop} (w : Walk J n G Y) {g : TG} {tt : TT} {te : TE} {vs : List Nat} {H1 : Hp} {D : Addr} {Q : VK} {τb : Nat → List SD} {f : Nat → Bool} {v : Nat → PyData}
    (I : Sl c L H1 σ τ m) (hD : H1 D = none) (hG : ∀ H', Ex H1 H' → G H') (hg : Takes1 c m vs (wipeT τ vs) H1 L (D :: L) n Y g τb) (hn : n ≤ 50000)
    (ht : ∀ i, i < n → EvB c tt (τb i) m (f i)) (he : ∀ i, i < n → f i = true → EvS c te (τb i) m (v i))
    (q : ∀ xs H2, Ex H1 H2 → H2 D = some (.lst xs) → DmA (hid (D :: L) H2) (givenD n f v) xs → Q (.ref D) H2) :
    ∃ W : Nat → Nat → Hp → Prop, (∃ m, W 0 m (upd H1 D (.lst []))) ∧ ∀ i m H, W i m H →
      (J.stop i H ∧ Q (.ref D) H) ∨ (J.go i H ∧ ∃ Nx : Hp → Prop, (∀ H', Nx H' → ∃ m', m' < m ∧ W (i + 1) m' H') ∧ ∀ x H', J.yld i H x H' → g x (L2.wipe σ vs) H' fun σ2 H2 => L2.wipe σ2 vs = L2.wipe σ vs ∧ tt σ2 H2 fun b H3 =>
        if b = true then te σ2 H3 fun y H4 => ∃ acc, H4 D = some (.lst acc) ∧ acc.length < sizeLine ∧ Nx (upd H4 D (.lst (acc ++ [y]))) else Nx H3) := by
  refine lc_it w (LcW H1 L D f v) ⟨Evl.Ex.new hD, hD, [], upd_same, rfl⟩ (fun i H _ p => hG H p.ex) (fun i x H H' hi p y => ?_) (fun H p => ?_)
  · obtain ⟨xs, k1, k2⟩ := p.lst
    have J1 : Sl c (D :: L) H (L2.wipe σ vs) (wipeT τ vs) m := (I.hide hD p.ex k1).wipe vs
    refine hg i x _ H H' hi p.ex (hid_cons hD p.ex) J1 y _ fun σ2 H2 e2 J2 hw => ⟨?_, ?_⟩
    · rw [hw]
      exact wipe_twice fun j hj => hj
    · refine ht i hi (D :: L) H2 σ2 J2 _ fun H3 e3 => ?_
      cases hf : f i with
      | true =>
        refine he i hi hf (D :: L) H3 σ2 (J2.mono e3) _ fun u H4 e4 hu => ?_
        have e : Ex H H4 := (e2.trans e3).trans e4
        have hl : xs.length < sizeLine := sz_lt (by rw [dmA_length k2]; have := givenD_len i f v; omega)
        refine ⟨xs, e _ _ k1, hl, Evl.Ex.mut (p.ex.trans e) hD, hD, _, upd_same, ?_⟩
        rw [hid_upd List.mem_cons_self, givenD_yes hf]
        exact dmA_append (dmA_mono (hid_mono e) _ _ k2) ⟨u, [], rfl, hu, rfl⟩
      | false =>
        refine ⟨p.ex.trans (e2.trans e3), hD, xs, (e2.trans e3) _ _ k1, ?_⟩
        rw [givenD_no hf]
        exact dmA_mono (hid_mono (e2.trans e3)) _ _ k2
  · obtain ⟨xs, k1, k2⟩ := p.lst
    exact q xs H p.ex k1 k2
/-- a name takes it -/
theorem tk_name {vs : List Nat} {H1 : Hp} {L0 : List Addr} {n : Nat} {Y : Nat → Hp → V → Hp → Prop} {j : Nat} {it : Nat → PyData} (hj : j ∈ vs)
    (hy : ∀ (i : Nat) (x : V) (H H' : Hp), i < n → Ex (hid L0 H1) (hid L H) → Y i H x H' → H' = H ∧ Dm (hid L H) (it i) x) : Takes1 c m vs τ H1 L0 L n Y (gName j) fun i => τ.set j (.val (it i)) :=
  fun i x σ H H' hi e e' I y P k => by
    obtain ⟨rfl, hx⟩ := hy i x H H' hi e' y
    exact k _ _ (Ex.refl _) (I.setV hx) (wipe_put hj)
/-- two names take a new pair -/
theorem tk_pair {K : PySem.W.Frag} {vs : List Nat} {H1 : Hp} {L0 : List Addr} {n : Nat} {xs ys : Nat → Option V} {j k : Nat} {it iu : Nat → PyData} (hj : j ∈ vs) (hk : k ∈ vs)
    (hy : ∀ (i : Nat) (x y : V) (H : Hp), i < n → Ex (hid L0 H1) (hid L H) → xs i = some x → ys i = some y → Dm (hid L H) (it i) x ∧ Dm (hid L H) (iu i) y) :
    Takes1 c m vs τ H1 L0 L n (YPair xs ys) (gTup K 2 (gCons (gName j) (gCons (gName k) gNil))) fun i => (τ.set j (.val (it i))).set k (.val (iu i)) :=
  fun i x σ H H' hi e e' I y P q => by
    obtain ⟨T, u, w, rfl, hT, rfl, hu, hw⟩ := y
    obtain ⟨h1, h2⟩ := hy i u w H hi e' hu hw
    have ex : Ex H (upd H T (.tup [u, w])) := Evl.Ex.new hT
    refine ⟨T, [u, w], rfl, .inl (.inl upd_same), rfl, u, [w], rfl, w, [], rfl, rfl, ?_⟩
    refine q _ _ ex (((I.mono ex).setV (dm_mono (hid_mono ex) _ _ h1)).setV (dm_mono (hid_mono ex) _ _ h2)) ?_
    rw [wipe_put hk, wipe_put hj]
end
section
variable {c : Cc} {τ : List SD} {m : Dk} {ta : TA} {tl te : TE} {tt : TT} {ds es : List PyData} {K : PySem.W.Frag} {vs : List Nat} {j k : Nat}
/-- [e for x in range(n) if t] -/
theorem n_lcR {n : Int} {f : Nat → Bool} {v : Nat → PyData} (h : EvA c ta τ m [.int n]) (hn : n ≤ 50000) (hm : -50000 ≤ n) (hj : j ∈ vs)
    (ht : ∀ i : Nat, (i : Int) < n → EvB c tt ((wipeT τ vs).set j (.val (.int (i : Int)))) m (f i)) (he : ∀ i : Nat, (i : Int) < n → f i = true → EvS c te ((wipeT τ vs).set j (.val (.int (i : Int)))) m (v i)) :
    EvN c (tLc (iRng1 ta) (gName j) tt te vs) τ m (givenD n.toNat f v) := fun L H σ I Q q => h L H σ I _ fun ws H1 e1 k1 => by
  obtain ⟨w, r, rfl, hw, hr⟩ := k1
  obtain rfl : w = .int n := hw
  obtain rfl : r = [] := hr
  refine ⟨n, rfl, by omega, by omega, fun D hD => ?_⟩
  refine lc_gen (walk_range (lo := 0) (n := n.toNat)) (I.mono e1) hD (fun _ _ => trivial) (τb := fun i => (wipeT τ vs).set j (.val (.int (i : Int)))) (tk_name hj fun i x H H' hi e y => ?_) (by omega) (fun i hi => ht i (by omega)) (fun i hi => he i (by omega)) fun xs H2 e2 h2 x2 => q D xs H2 (Evl.fresh_back e1 hD) (e1.trans e2) h2 x2
  obtain ⟨rfl, rfl⟩ := y
  exact ⟨rfl, by show V.int _ = V.int _; rw [Int.zero_add]⟩
theorem filter_of {α : Type} {xs : List α} {f : α → Bool} : ∀ {n : Nat} (h : n = xs.length) {g : Nat → Bool} {w : Nat → α}, (∀ i x, xs[i]? = some x → g i = f x ∧ w i = x) → ((List.range n).filter g).map w = xs.filter f := by
  intro n h
  subst h
  induction xs with
  | nil => intro g w _; rfl
  | cons x xs ih =>
    intro g w hh
    have h0 := hh 0 x rfl
    have ih' := ih (g := fun i => g (i + 1)) (w := fun i => w (i + 1)) fun i y e => hh (i + 1) y (by simpa using e)
    rw [List.length_cons, List.range_succ_eq_map, List.filter_cons, List.filter_map, h0.1]
    have e2 : (List.map w (List.map Nat.succ (List.filter (g ∘ Nat.succ) (List.range xs.length)))) = xs.filter f := by
      rw [List.map_map]
      exact ih'
    rw [List.filter_cons]
    split
    · rw [List.map_cons, e2, h0.2]
    · exact e2
/-- the turns over a list -/
theorem givenD_list {α : Type} {xs : List α} {f : Nat → Bool} {v : Nat → PyData} {f' : α → Bool} {v' : α → PyData} {n : Nat} (hn : n = xs.length) (h : ∀ i x, xs[i]? = some x → f i = f' x ∧ (f' x = true → v i = v' x)) : givenD n f v = (xs.filter f').map v' := by
  subst hn
  unfold givenD
  induction xs generalizing f v with
  | nil => rfl
  | cons x xs ih =>
    have h0 := h 0 x rfl
    have ih' := ih (f := fun i => f (i + 1)) (v := fun i => v (i + 1)) fun i y e => h (i + 1) y (by simpa using e)
    have e2 : (List.map v (List.map Nat.succ (List.filter (f ∘ Nat.succ) (List.range xs.length)))) = (xs.filter f').map v' := by
      rw [List.map_map]
      exact ih'
    rw [List.length_cons, List.range_succ_eq_map, List.filter_cons, List.filter_map, h0.1, List.filter_cons]
    split
    · rename_i z
      rw [List.map_cons, List.map_cons, e2, h0.2 z]
    · exact e2
theorem dmA_at {H : Hp} : ∀ {ds : List PyData} {vs : List V} {i : Nat} {v : V}, DmA H ds vs → vs[i]? = some v → Dm H (ds.getD i .none) v
  | [], _, _, _, h, e => by
    obtain rfl : _ = _ := h
    simp at e
  | d :: ds, _, 0, v, h, e => by
    obtain ⟨u, r, rfl, h1, h2⟩ := h
    obtain rfl : u = v := by simpa using e
    exact h1
  | d :: ds, _, i + 1, v, h, e => by
    obtain ⟨u, r, rfl, h1, h2⟩ := h
    exact dmA_at (i := i) h2 (by simpa using e)
theorem dmA_some {H : Hp} {ds : List PyData} {vs : List V} {i : Nat} {v : V} (h : DmA H ds vs) (e : vs[i]? = some v) : ds[i]? = some (ds.getD i .none) := by
  have hi : i < ds.length := by
    have := (List.getElem?_eq_some_iff.mp e).1
    rw [dmA_length h] at this
    exact this
  rw [List.getD_eq_getElem?_getD, List.getElem?_eq_getElem hi] <;> rfl
/-- [e for x in xs if t], xs a list of data -/
theorem n_lcL {f : PyData → Bool} {v : PyData → PyData} (h : EvQ c tl τ m ds) (hl : ds.length ≤ 50000) (hj : j ∈ vs)
    (ht : ∀ d ∈ ds, EvB c tt ((wipeT τ vs).set j (.val d)) m (f d)) (he : ∀ d ∈ ds, f d = true → EvS c te ((wipeT τ vs).set j (.val d)) m (v d)) :
    EvN c (tLc (iList K tl) (gName j) tt te vs) τ m ((ds.filter f).map v) := fun L H σ I Q q => h L H σ I _ fun p xs H1 e1 k1 x1 => by
  refine ⟨p, rfl, ⟨xs, .inl (.inl k1)⟩, fun D hD => ?_⟩
  have len := dmA_length x1
  have mem : ∀ i, i < xs.length → ds.getD i .none ∈ ds := fun i hi => by
    rw [List.getD_eq_getElem?_getD, List.getElem?_eq_getElem (by omega)]
    exact List.getElem_mem _
  refine lc_gen (walk_list (K := K) (a := p) (xs := xs)) (I.mono e1) hD (fun H' e => .inl (.inl (e _ _ k1))) (τb := fun i => (wipeT τ vs).set j (.val (ds.getD i .none))) (f := fun i => f (ds.getD i .none)) (v := fun i => v (ds.getD i .none))
    (tk_name hj fun i x H2 H' hi e y => ?_) (by omega) (fun i hi => ht _ (mem i hi)) (fun i hi hf => he _ (mem i hi) hf) fun ys H2 e2 h2 x2 => q D ys H2 (Evl.fresh_back e1 hD) (e1.trans e2) h2 ?_
  · obtain ⟨rfl, hx⟩ := y
    exact ⟨rfl, dm_mono e _ _ (dmA_at x1 hx)⟩
  · rw [← givenD_list (n := xs.length) (f := fun i => f (ds.getD i .none)) (v := fun i => v (ds.getD i .none)) (by omega) fun i x e => ?_]
    · exact x2
    · rw [List.getD_eq_getElem?_getD, e]
      exact ⟨rfl, fun _ => rfl⟩

/-- [e for x, y in zip(xs, ys) if t] -/
theorem n_lcZ {ta tb : TE} {f : PyData → PyData → Bool} {v : PyData → PyData → PyData} (ha : EvQ c ta τ m ds) (hb : EvQ c tb τ m es) (hl : ds.length ≤ 50000) (hj : j ∈ vs) (hk : k ∈ vs)
    (ht : ∀ p ∈ ds.zip es, EvB c tt (((wipeT τ vs).set j (.val p.1)).set k (.val p.2)) m (f p.1 p.2)) (he : ∀ p ∈ ds.zip es, f p.1 p.2 = true → EvS c te (((wipeT τ vs).set j (.val p.1)).set k (.val p.2)) m (v p.1 p.2)) :
    EvN c (tLc (iZip K (tCons ta (tCons tb tNil))) (gTup K 2 (gCons (gName j) (gCons (gName k) gNil))) tt te vs) τ m (((ds.zip es).filter fun p => f p.1 p.2).map fun p => v p.1 p.2) := fun L H σ I Q q =>
  ha L H σ I _ fun p xs H0 e0 k0 x0 => hb L H0 σ (I.mono e0) _ fun p' ys H1 e1 k1 x1 => by
  have x0' := dmA_mono (hid_mono e1) _ _ x0
  have len0 := dmA_length x0
  have len1 := dmA_length x1
  refine ⟨p, p', xs, ys, rfl, .inl (.inl (e1 _ _ k0)), .inl (.inl k1), fun D hD => ?_⟩
  have gt : ∀ i, i < min xs.length ys.length → (ds.zip es)[i]? = some (ds.getD i .none, es.getD i .none) := fun i hi => by
    rw [List.getElem?_zip_eq_some]
    rw [List.getD_eq_getElem?_getD, List.getD_eq_getElem?_getD, List.getElem?_eq_getElem (show i < ds.length by omega), List.getElem?_eq_getElem (show i < es.length by omega)]
    exact ⟨rfl, rfl⟩
  have mem : ∀ i, i < min xs.length ys.length → (ds.getD i .none, es.getD i .none) ∈ ds.zip es := fun i hi => List.mem_of_getElem? (gt i hi)
  refine lc_gen (walk_zip (K := K) (a := p) (b := p') (xs := xs) (ys := ys) rfl) ((I.mono e0).mono e1) hD (fun H' e => ⟨.inl (.inl (e _ _ (e1 _ _ k0))), .inl (.inl (e _ _ k1))⟩)
    (τb := fun i => ((wipeT τ vs).set j (.val (ds.getD i .none))).set k (.val (es.getD i .none))) (f := fun i => f (ds.getD i .none) (es.getD i .none)) (v := fun i => v (ds.getD i .none) (es.getD i .none))
    (tk_pair hj hk fun i x y H2 hi e hx hy => ⟨dm_mono e _ _ (dmA_at x0' hx), dm_mono e _ _ (dmA_at x1 hy)⟩) (by omega) (fun i hi => ht _ (mem i hi)) (fun i hi hf => he _ (mem i hi) hf) fun zs H2 e2 h2 x2 => q D zs H2 (Evl.fresh_back (e0.trans e1) hD) ((e0.trans e1).trans e2) h2 ?_
  rw [← givenD_list (n := min xs.length ys.length) (xs := ds.zip es) (f := fun i => f (ds.getD i .none) (es.getD i .none)) (v := fun i => v (ds.getD i .none) (es.getD i .none)) (f' := fun p => f p.1 p.2) (v' := fun p => v p.1 p.2) (by rw [List.length_zip]; omega) fun i x e => ?_]
  · exact x2
  · have hi : i < min xs.length ys.length := by
      have := (List.getElem?_eq_some_iff.mp e).1
      rw [List.length_zip] at this
      omega
    rw [gt i hi] at e
    obtain rfl := Option.some.inj e
    exact ⟨rfl, fun _ => rfl⟩
/-- [e for i, x in enumerate(xs) if t] -/
theorem n_lcE {ta : TE} {f : Nat → PyData → Bool} {v : Nat → PyData → PyData} (ha : EvQ c ta τ m ds) (hl : ds.length ≤ 50000) (hj : j ∈ vs) (hk : k ∈ vs)
    (ht : ∀ (i : Nat) (d : PyData), ds[i]? = some d → EvB c tt (((wipeT τ vs).set j (.val (.int (i : Int)))).set k (.val d)) m (f i d)) (he : ∀ (i : Nat) (d : PyData), ds[i]? = some d → f i d = true → EvS c te (((wipeT τ vs).set j (.val (.int (i : Int)))).set k (.val d)) m (v i d)) :
    EvN c (tLc (iEnum K (tCons ta tNil)) (gTup K 2 (gCons (gName j) (gCons (gName k) gNil))) tt te vs) τ m ((ds.zipIdx.filter fun p => f p.2 p.1).map fun p => v p.2 p.1) := fun L H σ I Q q =>
  ha L H σ I _ fun p xs H1 e1 k1 x1 => by
  have len1 := dmA_length x1
  refine ⟨p, xs, rfl, .inl (.inl k1), fun D hD => ?_⟩
  have gt : ∀ i, i < xs.length → ds[i]? = some (ds.getD i .none) := fun i hi => by
    rw [List.getD_eq_getElem?_getD, List.getElem?_eq_getElem (show i < ds.length by omega)] <;> rfl
  refine lc_gen (walk_enum (K := K) (a := p) (xs := xs)) (I.mono e1) hD (fun H' e => .inl (.inl (e _ _ k1)))
    (τb := fun i => ((wipeT τ vs).set j (.val (.int (i : Int)))).set k (.val (ds.getD i .none))) (f := fun i => f i (ds.getD i .none)) (v := fun i => v i (ds.getD i .none))
    (tk_pair hj hk fun i x y H2 hi e hx hy => ⟨?_, dm_mono e _ _ (dmA_at x1 hy)⟩) (by omega) (fun i hi => ht i _ (gt i hi)) (fun i hi hf => he i _ (gt i hi) hf) fun zs H2 e2 h2 x2 => q D zs H2 (Evl.fresh_back e1 hD) (e1.trans e2) h2 ?_
  · obtain rfl := Option.some.inj hx
    rfl
  rw [← givenD_list (n := xs.length) (xs := ds.zipIdx) (f := fun i => f i (ds.getD i .none)) (v := fun i => v i (ds.getD i .none)) (f' := fun p => f p.2 p.1) (v' := fun p => v p.2 p.1) (by rw [List.length_zipIdx]; omega) fun i x e => ?_]
  · exact x2
  · have hi : i < xs.length := by
      have := (List.getElem?_eq_some_iff.mp e).1
      rw [List.length_zipIdx] at this
      omega
    rw [List.getElem?_zipIdx, gt i hi] at e
    obtain rfl : _ = x := Option.some.inj e
    rw [Nat.zero_add]
    exact ⟨rfl, fun _ => rfl⟩
end

/-! ### statements -/
/-- the desk and all that stood, as the caller sees them -/
structure Out (c : Cc) (H : Hp) (m : Dk) : Prop where
  base : Ex c.B H
  dk : ∀ a, c.a = some a → DkAt c.C c.L_0 H a m
theorem Sl.out {c : Cc} {L : List Addr} {H : Hp} {σ : L2.St} {τ : List SD} {m : Dk} (I : Sl c L H σ τ m) : Out c H m := ⟨I.base, fun a h => by
  obtain ⟨_, _, dx, pc, pl, h1, h2, h3⟩ := I.dk a h
  exact ⟨dx, pc, pl, h1, dm_mono (hid_sub I.lzero) _ _ h2, dm_mono (hid_sub I.lzero) _ _ h3⟩⟩
/-- from the state (τ, m) the statement ends in a state of which nx is true, or gives back data of which rt is true -/
def Rn (c : Cc) (t : TS) (τ : List SD) (m : Dk) (nx : List SD → Dk → Prop) (rt : PyData → Dk → Prop) : Prop :=
  ∀ L D σ H, Sl c L H σ τ m → (∀ L' τ' m' σ' H', nx τ' m' → Sl c L' H' σ' τ' m' → D.nx σ' H') → (∀ d m' v H', rt d m' → Out c H' m' → Dm (hid c.L_0 H') d v → D.rt v H') → t D σ H
section
variable {c : Cc} {τ : List SD} {m : Dk} {nx nx' : List SD → Dk → Prop} {rt : PyData → Dk → Prop} {te ta tb : TE} {d e : PyData} {ds es : List PyData} {K : PySem.W.Frag}
theorem Rn.mono {t : TS} (h : Rn c t τ m nx rt) (k : ∀ τ' m', nx τ' m' → nx' τ' m') : Rn c t τ m nx' rt := fun L D σ H I hn hr => h L D σ H I (fun L' τ' m' σ' H' q J => hn L' τ' m' σ' H' (k _ _ q) J) hr
theorem r_seq {t u : TS} (h : Rn c t τ m (fun τ' m' => Rn c u τ' m' nx rt) rt) : Rn c (tSeq t u) τ m nx rt := fun L D σ H I hn hr =>
  h L { D with nx := u D } σ H I (fun L' τ' m' σ' H' q J => q L' D σ' H' J hn hr) hr
theorem r_next (h : nx τ m) : Rn c tNext τ m nx rt := fun L D σ H I hn hr => hn L τ m σ H h I
theorem r_ret (h : EvS c te τ m d) (k : rt d m) : Rn c (tRet te) τ m nx rt := fun L D σ H I hn hr => h L H σ I _ fun v H2 e h2 =>
  hr d m v H2 k (I.mono e).out (dm_mono (hid_sub I.lzero) _ _ h2)
/-- a list given back, one's own or not -/
theorem r_retO {i : Nat} (h : τ[i]? = some (.own ds)) (k : rt (.list ds) m) : Rn c (tRet (tVar i)) τ m nx rt := fun L D σ H I hn hr => by
  obtain ⟨L', J⟩ := I.plain h
  have hi : i < τ.length := (List.getElem?_eq_some_iff.mp h).1
  exact r_ret (nx := nx) (e_var (List.getElem?_set_self hi)) k L' D σ H J hn hr
theorem r_if {t : TT} {tu tw : TS} {b : Bool} (h : EvB c t τ m b) (h1 : b = true → Rn c tu τ m nx rt) (h2 : b = false → Rn c tw τ m nx rt) : Rn c (tIfS t tu tw) τ m nx rt := fun L D σ H I hn hr => h L H σ I _ fun H1 e => by
  cases b with
  | true => exact h1 rfl L D σ H1 (I.mono e) hn hr
  | false => exact h2 rfl L D σ H1 (I.mono e) hn hr
theorem r_asg {i : Nat} (h : EvS c te τ m d) (k : nx (τ.set i (.val d)) m) : Rn c (tAsg te (gName i)) τ m nx rt := fun L D σ H I hn hr => h L H σ I _ fun v H2 e h2 => hn L _ m _ H2 k ((I.mono e).setV h2)
theorem r_asgN {i : Nat} (h : EvN c te τ m ds) (k : nx (τ.set i (.own ds)) m) : Rn c (tAsg te (gName i)) τ m nx rt := fun L D σ H I hn hr => h L H σ I _ fun p xs H2 hp e h2 x2 => hn _ _ m _ H2 k (I.setO hp e h2 x2 (I.na hp))
theorem r_asg2 {i j : Nat} (h : EvS c te τ m (.tuple [d, e])) (k : nx ((τ.set i (.val d)).set j (.val e)) m) : Rn c (tAsg te (gTup K 2 (gCons (gName i) (gCons (gName j) gNil)))) τ m nx rt := fun L D σ H I hn hr => h L H σ I _ fun v H2 ex h2 => by
  obtain ⟨a, xs, rfl, ha, v, r, rfl, hv, w, r', rfl, hw, hr'⟩ := h2
  obtain rfl : r' = [] := hr'
  exact ⟨a, [v, w], rfl, .inl (.inl (hid_ex _ _ ha)), rfl, v, [w], rfl, w, [], rfl, rfl, hn L _ m _ H2 k (((I.mono ex).setV hv).setV hw)⟩
theorem r_par {i j : Nat} {ta : TA} (h : EvA c ta τ m [d, e]) (k : nx ((τ.set i (.val d)).set j (.val e)) m) : Rn c (tPar i j ta) τ m nx rt := fun L D σ H I hn hr => h L H σ I _ fun vs H2 ex h2 => by
  obtain ⟨v, r, rfl, hv, w, r', rfl, hw, hr'⟩ := h2
  obtain rfl : r' = [] := hr'
  exact ⟨v, w, rfl, hn L _ m _ H2 k (((I.mono ex).setV hv).setV hw)⟩
theorem r_aug {i : Nat} {f : Int → Int → Int} {a b : Int} (hx : τ[i]? = some (.val (.int a))) (h : EvS c te τ m (.int b)) (k : nx (τ.set i (.val (.int (f a b)))) m) : Rn c (tAug i te (ipI f)) τ m nx rt := fun L D σ H I hn hr => by
  obtain ⟨x, h1, v, rfl, hv⟩ := I.get hx
  obtain rfl : v = .int a := hv
  refine ⟨.int a, h1, h L H σ I _ fun w H2 ex h2 => ?_⟩
  exact ⟨a, b, rfl, h2, hn L _ m _ H2 k ((I.mono ex).setV rfl)⟩
theorem r_drop (h : EvS c te τ m d) (k : nx τ m) : Rn c (tDrop te) τ m nx rt := fun L D σ H I hn hr => h L H σ I _ fun v H2 e h2 => hn L τ m σ H2 k (I.mono e)
/-- xs.append(e) -/
theorem r_app {i : Nat} (h : τ[i]? = some (.own ds)) (he : EvS c te τ m d) (hl : ds.length < 90000) (k : nx (τ.set i (.own (ds ++ [d]))) m) : Rn c (tDrop (tBM K "list" rAppend (tVar i) (tCons te tNil))) τ m nx rt := fun L D σ H I hn hr => by
  obtain ⟨x, h1, l, xs, rfl, k1, k2, k3, k4, k5⟩ := I.get h
  refine ⟨_, h1, .inl ⟨rfl, xs, .inl (.inl k4)⟩, he L H σ I _ fun v H2 ex hv => ?_⟩
  refine ⟨l, xs, v, rfl, rfl, ex _ _ k4, sz_lt (by rw [dmA_length k5]; omega), hn L _ m _ _ k ?_⟩
  exact (I.mono ex).wrO h h1 (dmA_append (dmA_mono (hid_mono ex) _ _ k5) ⟨v, [], rfl, hv, rfl⟩)
/-- xs.extend(e) -/
theorem r_ext {i : Nat} (h : τ[i]? = some (.own ds)) (he : EvS c te τ m (.list es)) (hl : ds.length + es.length ≤ 90000) (k : nx (τ.set i (.own (ds ++ es))) m) : Rn c (tDrop (tBM K "list" rExtend (tVar i) (tCons te tNil))) τ m nx rt := fun L D σ H I hn hr => by
  obtain ⟨x, h1, l, xs, rfl, k1, k2, k3, k4, k5⟩ := I.get h
  refine ⟨_, h1, .inl ⟨rfl, xs, .inl (.inl k4)⟩, he L H σ I _ fun v H2 ex hv => ?_⟩
  obtain ⟨b, ys, rfl, hb, hy⟩ := hv
  refine ⟨l, b, xs, ys, rfl, rfl, ex _ _ k4, hid_ex _ _ hb, sz_of (by rw [dmA_length k5, dmA_length hy]; omega), hn L _ m _ _ k ?_⟩
  exact (I.mono ex).wrO h h1 (dmA_append (dmA_mono (hid_mono ex) _ _ k5) hy)
/-- xs[i] = e -/
theorem r_setI {i : Nat} {z : Int} (h : τ[i]? = some (.own ds)) (he : EvS c te τ m d) (hz : EvS c tb τ m (.int z)) (h0 : 0 ≤ z) (hl : z < ds.length) (k : nx (τ.set i (.own (ds.set z.toNat d))) m) : Rn c (tAsg te (gSub (tVar i) tb rSetL)) τ m nx rt := fun L D σ H I hn hr =>
  he L H σ I _ fun v H1 e1 hv => by
  obtain ⟨x, h1, l, xs, rfl, k1, k2, k3, k4, k5⟩ := (I.mono e1).get h
  refine ⟨_, h1, hz L H1 σ (I.mono e1) _ fun w H2 e2 hw => ?_⟩
  obtain rfl : w = .int z := hw
  have hx : xs.length = ds.length := dmA_length k5
  refine ⟨l, xs, z, z.toNat, rfl, rfl, e2 _ _ k4, ?_, hn L _ m _ _ k ?_⟩
  · unfold ixN
    rw [if_pos h0, if_pos (by omega)]
  · exact ((I.mono e1).mono e2).wrO h h1 (dmA_set (dm_mono (hid_mono e2) _ _ hv) _ (dmA_mono (hid_mono e2) _ _ k5))
/-- an own list is plain data from here on -/
theorem r_plain {t : TS} {i : Nat} (h : τ[i]? = some (.own ds)) (k : Rn c t (τ.set i (.val (.list ds))) m nx rt) : Rn c t τ m nx rt := fun L D σ H I hn hr => by
  obtain ⟨L', J⟩ := I.plain h
  exact k L' D σ H J hn hr
theorem r_wk {t : TS} {τ' : List SD} (h : WkL τ τ') (k : Rn c t τ' m nx rt) : Rn c t τ m nx rt := fun L D σ H I hn hr => k L D σ H (I.wk h) hn hr
end
/-! ### loops: the state at turn i is (S i, M i), and G i is true -/
def Cc.on (c : Cc) (B : Hp) : Cc := { c with B := B }
def joinB (B G : Hp) : Hp := fun b => match B b with
  | some o => some o
  | none => G b
theorem joinB_l {B G : Hp} {b : Addr} {o : HO} (h : B b = some o) : joinB B G b = some o := by unfold joinB; rw [h]
theorem joinB_r {B G : Hp} {b : Addr} (h : B b = none) : joinB B G b = G b := by unfold joinB; rw [h]
theorem joinB_none {B G : Hp} {b : Addr} (h : joinB B G b = none) : B b = none ∧ G b = none := by
  unfold joinB at h
  split at h
  · cases h
  · exact ⟨by assumption, h⟩
section
variable {c : Cc} {L : List Addr} {H : Hp} {σ : L2.St} {τ : List SD} {m : Dk}
theorem hid_in {b : Addr} (h : b ∈ L) : hid L H b = none := by unfold hid; rw [if_pos h]
theorem Sl.rebase (I : Sl c L H σ τ m) : Sl (c.on (joinB c.B (hid L H))) L H σ τ m where
  len := I.len
  base := fun b o h => by
    cases e : c.B b with
    | some o' =>
      rw [show (c.on (joinB c.B (hid L H))).B b = _ from joinB_l e] at h
      cases h
      exact I.base _ _ e
    | none =>
      rw [show (c.on (joinB c.B (hid L H))).B b = _ from joinB_r e] at h
      exact hid_ex _ _ h
  lzero := I.lzero
  wf := fun b h => by
    rcases I.wf b h with ⟨o, q⟩ | q
    · exact .inl ⟨o, joinB_l q⟩
    · exact .inr q
  dom := I.dom
  sub := fun b h => by
    rcases I.sub b h with q | q
    · exact .inl q
    · exact .inr ((joinB_r q).trans (hid_in h))
  slot := fun i s x h1 h2 => by
    have k := I.slot i s x h1 h2
    cases s with
    | no => trivial
    | val d => exact k
    | own ds =>
      obtain ⟨l, xs, rfl, k1, k2, k3, k4, k5⟩ := k
      exact ⟨l, xs, rfl, k1, (joinB_r k2).trans (hid_in k1), k3, k4, k5⟩
    | desk => exact k
  dist := I.dist
  dk := fun a h => by
    obtain ⟨k1, k2, k3⟩ := I.dk a h
    exact ⟨k1, fun hm => (joinB_r (k2 hm)).trans (hid_in k1), k3⟩
theorem Sl.unbase {G : Hp} (hw : ∀ b ∈ c.L_0, (∃ o, c.B b = some o) ∨ c.a = some b) (I : Sl (c.on (joinB c.B G)) L H σ τ m) : Sl c L H σ τ m where
  len := I.len
  base := fun b o h => I.base b o (joinB_l h)
  lzero := I.lzero
  wf := hw
  dom := I.dom
  sub := fun b h => by
    rcases I.sub b h with q | q
    · exact .inl q
    · exact .inr (joinB_none q).1
  slot := fun i s x h1 h2 => by
    have k := I.slot i s x h1 h2
    cases s with
    | no => trivial
    | val d => exact k
    | own ds =>
      obtain ⟨l, xs, rfl, k1, k2, k3, k4, k5⟩ := k
      exact ⟨l, xs, rfl, k1, (joinB_none k2).1, k3, k4, k5⟩
    | desk => exact k
  dist := I.dist
  dk := fun a h => by
    obtain ⟨k1, k2, k3⟩ := I.dk a h
    exact ⟨k1, fun hm => (joinB_none (k2 hm)).1, k3⟩
/-- what stood ahead of the loop stands -/
theorem Sl.stands {L' : List Addr} {H' : Hp} {σ' : L2.St} {τ' : List SD} {m' : Dk} (I : Sl c L H σ τ m) (J : Sl (c.on (joinB c.B (hid L H))) L' H' σ' τ' m') : Ex (hid L H) (hid L' H') := fun b o h => by
  obtain ⟨n, hb⟩ := hid_some h
  have e : joinB c.B (hid L H) b = some o := by
    cases q : c.B b with
    | some o' =>
      have z := I.base _ _ q
      rw [hb] at z
      cases z
      exact joinB_l q
    | none => exact (joinB_r q).trans h
  have n' : b ∉ L' := fun z => by
    rcases J.sub b z with q | q
    · exact n (I.lzero b q)
    · have q' : joinB c.B (hid L H) b = none := q
      rw [e] at q'
      cases q'
  rw [hid_at n']
  exact J.base b o e
variable {nx : List SD → Dk → Prop} {rt : PyData → Dk → Prop}
theorem loop_gen {J : It} {n : Nat} {g : TG} {tb : TS} {D : Ends} {Gd : Hp → Prop} {Y : Nat → Hp → V → Hp → Prop} (w : Walk J n Gd Y) (S T : Nat → List SD) (M : Nat → Dk) (G : Nat → Prop)
    (I : Sl c L H σ (S 0) (M 0)) (g0 : G 0) (hG : ∀ H' L', Ex (hid L H) (hid L' H') → Gd H')
    (hg : ∀ i x L' σ' H' H'', i < n → Sl (c.on (joinB c.B (hid L H))) L' H' σ' (S i) (M i) → Ex (hid L H) (hid L' H') → Y i H' x H'' → ∀ P : L2.St → Hp → Prop, (∀ σ2 H2, Sl (c.on (joinB c.B (hid L H))) L' H2 σ2 (T i) (M i) → P σ2 H2) → g x σ' H'' P)
    (hs : ∀ (B : Hp) i, Ex c.B B → i < n → G i → Rn (c.on B) tb (T i) (M i) (fun τ' m' => WkL τ' (S (i + 1)) ∧ m' = M (i + 1) ∧ G (i + 1)) rt)
    (hn : ∀ L' τ' m' σ' H', nx τ' m' → Sl c L' H' σ' τ' m' → D.nx σ' H') (hr : ∀ d m' v H', rt d m' → Out c H' m' → Dm (hid c.L_0 H') d v → D.rt v H') (hd : G n → nx (S n) (M n)) :
    ∃ W : Nat → Nat → L2.St → Hp → Prop, (∃ m, W 0 m σ H) ∧ ∀ i m σ H, W i m σ H →
      (J.stop i H ∧ D.nx σ H) ∨ (J.go i H ∧ ∃ N : L2.St → Hp → Prop, (∀ σ' H', N σ' H' → ∃ m', m' < m ∧ W (i + 1) m' σ' H') ∧ ∀ x H', J.yld i H x H' → g x σ H' fun σ2 H2 => tb { D with nx := N, ct := N, bk := D.nx } σ2 H2) := by
  refine for_it w (fun i σ' H' => G i ∧ ∃ L', Sl (c.on (joinB c.B (hid L H))) L' H' σ' (S i) (M i)) ⟨g0, L, I.rebase⟩ (fun i σ' H' _ ⟨_, L', J'⟩ => hG H' L' (I.stands J')) (fun i x σ' H' H'' hi ⟨gi, L', J'⟩ y => ?_) (fun σ' H' ⟨gn, L', J'⟩ => hn L' _ _ σ' H' (hd gn) (J'.unbase I.wf))
  refine hg i x L' σ' H' H'' hi J' (I.stands J') y _ fun σ2 H2 J2 => ?_
  refine hs _ i (fun b o z => joinB_l z) hi gi L' _ σ2 H2 J2 (fun L3 τ3 m3 σ3 H3 q J3 => ?_) (fun d m3 v H3 q o3 hv => hr d m3 v H3 q ⟨fun b o z => o3.base b o (joinB_l z), o3.dk⟩ hv)
  obtain ⟨q1, rfl, q2⟩ := q
  exact ⟨q2, L3, J3.wk q1⟩
end
section
variable {c : Cc} {τ : List SD} {m : Dk} {nx : List SD → Dk → Prop} {rt : PyData → Dk → Prop} {te tl : TE} {ta : TA} {tb : TS} {ds : List PyData} {K : PySem.W.Frag} {j k : Nat}
/-- for j in range(n) -/
theorem r_forR {n : Int} (h : EvA c ta τ m [.int n]) (hn : n ≤ 1000000) (hm : -1000000 ≤ n) (S : Nat → List SD) (M : Nat → Dk) (G : Nat → Prop) (h0 : WkL τ (S 0)) (hM : m = M 0) (g0 : G 0)
    (hs : ∀ (B : Hp) (i : Nat), (i : Int) < n → G i → Rn (c.on B) tb ((S i).set j (.val (.int (i : Int)))) (M i) (fun τ' m' => WkL τ' (S (i + 1)) ∧ m' = M (i + 1) ∧ G (i + 1)) rt)
    (hd : G n.toNat → nx (S n.toNat) (M n.toNat)) : Rn c (tFor (iRng1 ta) (gName j) tb) τ m nx rt := fun L D σ H I hx hr => h L H σ I _ fun ws H1 e1 k1 => by
  obtain ⟨w, r, rfl, hw, hr'⟩ := k1
  obtain rfl : w = .int n := hw
  obtain rfl : r = [] := hr'
  subst hM
  refine ⟨n, rfl, by omega, by omega, ?_⟩
  refine loop_gen (walk_range (lo := 0) (n := n.toNat)) S (fun i => (S i).set j (.val (.int (i : Int)))) M G ((I.mono e1).wk h0) g0 (fun _ _ _ => trivial) (fun i x L' σ' H' H'' hi J' ex y P k => ?_) (fun B i _ hi gi => hs B i (by omega) gi) hx hr hd
  obtain ⟨rfl, rfl⟩ := y
  exact k _ _ (J'.setV (by show V.int _ = V.int _; rw [Int.zero_add]))
/-- for j in range(lo, hi) -/
theorem r_forR2 {lo n : Int} (h : EvA c ta τ m [.int lo, .int n]) (hl : lo ≤ 1000000 ∧ -1000000 ≤ lo ∧ n ≤ 1000000 ∧ -1000000 ≤ n) (S : Nat → List SD) (M : Nat → Dk) (G : Nat → Prop) (h0 : WkL τ (S 0)) (hM : m = M 0) (g0 : G 0)
    (hs : ∀ (B : Hp) (i : Nat), lo + (i : Int) < n → G i → Rn (c.on B) tb ((S i).set j (.val (.int (lo + (i : Int))))) (M i) (fun τ' m' => WkL τ' (S (i + 1)) ∧ m' = M (i + 1) ∧ G (i + 1)) rt)
    (hd : G (n - lo).toNat → nx (S (n - lo).toNat) (M (n - lo).toNat)) : Rn c (tFor (iRng2 ta) (gName j) tb) τ m nx rt := fun L D σ H I hx hr => h L H σ I _ fun ws H1 e1 k1 => by
  obtain ⟨w, r, rfl, hw, w', r', rfl, hw', hr'⟩ := k1
  obtain rfl : w = .int lo := hw
  obtain rfl : w' = .int n := hw'
  obtain rfl : r' = [] := hr'
  subst hM
  refine ⟨lo, n, rfl, ⟨by omega, by omega, by omega, by omega⟩, ?_⟩
  refine loop_gen (walk_range (lo := lo) (n := (n - lo).toNat)) S (fun i => (S i).set j (.val (.int (lo + (i : Int))))) M G ((I.mono e1).wk h0) g0 (fun _ _ _ => trivial) (fun i x L' σ' H' H'' hi J' ex y P k => ?_) (fun B i _ hi gi => hs B i (by omega) gi) hx hr hd
  obtain ⟨rfl, rfl⟩ := y
  exact k _ _ (J'.setV rfl)
/-- for j in range(lo, hi, step) -/
theorem r_forR3 {lo hi st : Int} {n : Nat} (h : EvA c ta τ m [.int lo, .int hi, .int st]) (hc : RgC lo hi st n) (S : Nat → List SD) (M : Nat → Dk) (G : Nat → Prop) (h0 : WkL τ (S 0)) (hM : m = M 0) (g0 : G 0)
    (hs : ∀ (B : Hp) (i : Nat), i < n → G i → Rn (c.on B) tb ((S i).set j (.val (.int (lo + (i : Int) * st)))) (M i) (fun τ' m' => WkL τ' (S (i + 1)) ∧ m' = M (i + 1) ∧ G (i + 1)) rt)
    (hd : G n → nx (S n) (M n)) : Rn c (tFor (iRng3 ta) (gName j) tb) τ m nx rt := fun L D σ H I hx hr => h L H σ I _ fun ws H1 e1 k1 => by
  obtain ⟨w, r, rfl, hw, w', r', rfl, hw', w'', r'', rfl, hw'', hr'⟩ := k1
  obtain rfl : w = .int lo := hw
  obtain rfl : w' = .int hi := hw'
  obtain rfl : w'' = .int st := hw''
  obtain rfl : r'' = [] := hr'
  subst hM
  refine ⟨lo, hi, st, n, rfl, hc, ?_⟩
  refine loop_gen (walk_rangeC (lo := lo) (c := st) (n := n)) S (fun i => (S i).set j (.val (.int (lo + (i : Int) * st)))) M G ((I.mono e1).wk h0) g0 (fun _ _ _ => trivial) (fun i x L' σ' H' H'' hi J' ex y P k => ?_) (fun B i _ hi gi => hs B i hi gi) hx hr hd
  obtain ⟨rfl, rfl⟩ := y
  exact k _ _ (J'.setV rfl)
/-- for j in reversed(range(n)) -/
theorem r_forV {n : Int} (h : EvS c te τ m (.int n)) (hn : n ≤ 1000000) (hm : -1000000 ≤ n) (S : Nat → List SD) (M : Nat → Dk) (G : Nat → Prop) (h0 : WkL τ (S 0)) (hM : m = M 0) (g0 : G 0)
    (hs : ∀ (B : Hp) (i : Nat), (i : Int) < n → G i → Rn (c.on B) tb ((S i).set j (.val (.int (n - 1 - (i : Int))))) (M i) (fun τ' m' => WkL τ' (S (i + 1)) ∧ m' = M (i + 1) ∧ G (i + 1)) rt)
    (hd : G n.toNat → nx (S n.toNat) (M n.toNat)) : Rn c (tFor (iRevR (tRg1 te)) (gName j) tb) τ m nx rt := fun L D σ H I hx hr => h L H σ I _ fun w H1 e1 k1 => by
  obtain rfl : w = .int n := k1
  subst hM
  refine ⟨n, rfl, by omega, by omega, by omega, by omega, ?_⟩
  rw [show (n - 0).toNat = n.toNat by omega]
  refine loop_gen (walk_rangeC (lo := 0 + ((n.toNat : Nat) : Int) - 1) (c := -1) (n := n.toNat)) S (fun i => (S i).set j (.val (.int (n - 1 - (i : Int))))) M G ((I.mono e1).wk h0) g0 (fun _ _ _ => trivial) (fun i x L' σ' H' H'' hi J' ex y P k => ?_) (fun B i _ hi gi => hs B i (by omega) gi) hx hr hd
  obtain ⟨rfl, rfl⟩ := y
  exact k _ _ (J'.setV (by show V.int _ = V.int _; congr 1; omega))
/-- for j in xs -/
theorem r_forL (h : EvS c tl τ m (.list ds)) (S : Nat → List SD) (M : Nat → Dk) (G : Nat → Prop) (h0 : WkL τ (S 0)) (hM : m = M 0) (g0 : G 0)
    (hs : ∀ (B : Hp) (i : Nat) (d : PyData), ds[i]? = some d → G i → Rn (c.on B) tb ((S i).set j (.val d)) (M i) (fun τ' m' => WkL τ' (S (i + 1)) ∧ m' = M (i + 1) ∧ G (i + 1)) rt)
    (hd : G ds.length → nx (S ds.length) (M ds.length)) : Rn c (tFor (iList K tl) (gName j) tb) τ m nx rt := fun L D σ H I hx hr => h L H σ I _ fun v H1 e1 k1 => by
  obtain ⟨p, xs, rfl, k1, x1⟩ := k1
  have len := dmA_length x1
  subst hM
  refine ⟨p, rfl, ⟨xs, .inl (.inl (hid_ex _ _ k1))⟩, ?_⟩
  refine loop_gen (walk_list (K := K) (a := p) (xs := xs)) S (fun i => (S i).set j (.val (ds.getD i .none))) M G ((I.mono e1).wk h0) g0 (fun H' L' ex => .inl (.inl (hid_ex _ _ (ex _ _ k1)))) (fun i x L' σ' H' H'' hi J' ex y P k => ?_) (fun B i _ hi gi => hs B i _ ?_ gi) hx hr (by rw [len]; exact hd)
  · obtain ⟨rfl, hx⟩ := y
    exact k _ _ (J'.setV (dm_mono ex _ _ (dmA_at x1 hx)))
  · rw [List.getD_eq_getElem?_getD, List.getElem?_eq_getElem (show i < ds.length by omega)] <;> rfl
/-- .. where what stood ahead of the loop is asked for -/
theorem r_forLX (h : EvS c tl τ m (.list ds)) (S : Nat → List SD) (M : Nat → Dk) (G : Nat → Prop) (h0 : WkL τ (S 0)) (hM : m = M 0) (g0 : G 0)
    (hs : ∀ (B : Hp) (i : Nat) (d : PyData), Ex c.B B → ds[i]? = some d → G i → Rn (c.on B) tb ((S i).set j (.val d)) (M i) (fun τ' m' => WkL τ' (S (i + 1)) ∧ m' = M (i + 1) ∧ G (i + 1)) rt)
    (hd : G ds.length → nx (S ds.length) (M ds.length)) : Rn c (tFor (iList K tl) (gName j) tb) τ m nx rt := fun L D σ H I hx hr => h L H σ I _ fun v H1 e1 k1 => by
  obtain ⟨p, xs, rfl, k1, x1⟩ := k1
  have len := dmA_length x1
  subst hM
  refine ⟨p, rfl, ⟨xs, .inl (.inl (hid_ex _ _ k1))⟩, ?_⟩
  refine loop_gen (walk_list (K := K) (a := p) (xs := xs)) S (fun i => (S i).set j (.val (ds.getD i .none))) M G ((I.mono e1).wk h0) g0 (fun H' L' ex => .inl (.inl (hid_ex _ _ (ex _ _ k1)))) (fun i x L' σ' H' H'' hi J' ex y P k => ?_) (fun B i eB hi gi => hs B i _ eB ?_ gi) hx hr (by rw [len]; exact hd)
  · obtain ⟨rfl, hx⟩ := y
    exact k _ _ (J'.setV (dm_mono ex _ _ (dmA_at x1 hx)))
  · rw [List.getD_eq_getElem?_getD, List.getElem?_eq_getElem (show i < ds.length by omega)] <;> rfl
/-- for i, x in enumerate(xs) -/
theorem r_forE (h : EvS c tl τ m (.list ds)) (S : Nat → List SD) (M : Nat → Dk) (G : Nat → Prop) (h0 : WkL τ (S 0)) (hM : m = M 0) (g0 : G 0)
    (hs : ∀ (B : Hp) (i : Nat) (d : PyData), ds[i]? = some d → G i → Rn (c.on B) tb (((S i).set j (.val (.int (i : Int)))).set k (.val d)) (M i) (fun τ' m' => WkL τ' (S (i + 1)) ∧ m' = M (i + 1) ∧ G (i + 1)) rt)
    (hd : G ds.length → nx (S ds.length) (M ds.length)) : Rn c (tFor (iEnum K (tCons tl tNil)) (gTup K 2 (gCons (gName j) (gCons (gName k) gNil))) tb) τ m nx rt := fun L D σ H I hx hr => h L H σ I _ fun v H1 e1 k1 => by
  obtain ⟨p, xs, rfl, k1, x1⟩ := k1
  have len := dmA_length x1
  subst hM
  refine ⟨p, xs, rfl, .inl (.inl (hid_ex _ _ k1)), ?_⟩
  refine loop_gen (walk_enum (K := K) (a := p) (xs := xs)) S (fun i => ((S i).set j (.val (.int (i : Int)))).set k (.val (ds.getD i .none))) M G ((I.mono e1).wk h0) g0 (fun H' L' ex => .inl (.inl (hid_ex _ _ (ex _ _ k1)))) (fun i x L' σ' H' H'' hi J' ex y P q => ?_) (fun B i _ hi gi => hs B i _ ?_ gi) hx hr (by rw [len]; exact hd)
  · obtain ⟨T, u, w, rfl, hT, rfl, hu, hw⟩ := y
    obtain rfl := Option.some.inj hu
    have ex2 : Ex H' (upd H' T (.tup [.int (i : Nat), w])) := Evl.Ex.new hT
    exact ⟨T, _, rfl, .inl (.inl upd_same), rfl, _, _, rfl, _, _, rfl, rfl, q _ _ (((J'.mono ex2).setV (d := .int (i : Int)) (v := .int (i : Nat)) rfl).setV (dm_mono (hid_mono ex2) _ _ (dm_mono ex _ _ (dmA_at x1 hw))))⟩
  · rw [List.getD_eq_getElem?_getD, List.getElem?_eq_getElem (show i < ds.length by omega)] <;> rfl
/-- for x, y in xs, a list of pairs -/
theorem r_forP {α : Type} {l : List α} {p1 p2 : α → PyData} (h : EvS c tl τ m (.list (l.map fun x => .tuple [p1 x, p2 x]))) (S : Nat → List SD) (M : Nat → Dk) (G : Nat → Prop) (h0 : WkL τ (S 0)) (hM : m = M 0) (g0 : G 0)
    (hs : ∀ (B : Hp) (i : Nat) (x : α), l[i]? = some x → G i → Rn (c.on B) tb (((S i).set j (.val (p1 x))).set k (.val (p2 x))) (M i) (fun τ' m' => WkL τ' (S (i + 1)) ∧ m' = M (i + 1) ∧ G (i + 1)) rt)
    (hd : G l.length → nx (S l.length) (M l.length)) : Rn c (tFor (iList K tl) (gTup K 2 (gCons (gName j) (gCons (gName k) gNil))) tb) τ m nx rt := fun L D σ H I hx hr => h L H σ I _ fun v H1 e1 k1 => by
  obtain ⟨p, xs, rfl, k1, x1⟩ := k1
  have len := dmA_length x1
  rw [List.length_map] at len
  subst hM
  refine ⟨p, rfl, ⟨xs, .inl (.inl (hid_ex _ _ k1))⟩, ?_⟩
  refine loop_gen (walk_list (K := K) (a := p) (xs := xs)) S (fun i => match l[i]? with | some x => ((S i).set j (.val (p1 x))).set k (.val (p2 x)) | none => []) M G ((I.mono e1).wk h0) g0 (fun H' L' ex => .inl (.inl (hid_ex _ _ (ex _ _ k1)))) (fun i x L' σ' H' H'' hi J' ex y P q => ?_) (fun B i _ hi gi => ?_) hx hr (by rw [len]; exact hd)
  · obtain ⟨rfl, hx⟩ := y
    have hl : i < l.length := by omega
    have hd := dmA_at x1 hx
    rw [List.getD_eq_getElem?_getD, List.getElem?_map, List.getElem?_eq_getElem hl] at hd
    obtain ⟨a, zs, rfl, ha, u, r, rfl, hu, w, r', rfl, hw, hr'⟩ := dm_mono ex _ _ hd
    obtain rfl : r' = [] := hr'
    rw [List.getElem?_eq_getElem hl] at q
    exact ⟨a, _, rfl, .inl (.inl (hid_ex _ _ ha)), rfl, _, _, rfl, _, _, rfl, rfl, q _ _ ((J'.setV hu).setV hw)⟩
  · have hl : i < l.length := by omega
    rw [List.getElem?_eq_getElem hl]
    exact hs B i _ (List.getElem?_eq_getElem hl) gi
/-- while, a measure falls; the state is (S x, M x), x of any kind -/
theorem r_while {β : Type} {t : TT} (S : β → List SD) (M : β → Dk) (mu : β → Nat) (x0 : β) (h0 : WkL τ (S x0)) (hM : m = M x0) (bv : β → Bool)
    (ht : ∀ x, EvB c t (S x) (M x) (bv x)) (hs : ∀ x, bv x = true → Rn c tb (S x) (M x) (fun τ' m' => ∃ y, mu y < mu x ∧ WkL τ' (S y) ∧ m' = M y) rt)
    (hd : ∀ x, bv x = false → nx (S x) (M x)) : Rn c (tWhile t tb) τ m nx rt := fun L D σ H I hx hr => by
  subst hM
  refine ⟨fun n σ' H' => ∃ x L', mu x = n ∧ Sl c L' H' σ' (S x) (M x), ⟨mu x0, x0, L, rfl, I.wk h0⟩, ?_⟩
  rintro n σ' H' ⟨x, L', rfl, J⟩
  refine ht x L' H' σ' J _ fun H1 e1 => ?_
  cases hb : bv x with
  | true =>
    refine ⟨fun σ2 H2 => ∃ y L2, mu y < mu x ∧ Sl c L2 H2 σ2 (S y) (M y), fun σ2 H2 ⟨y, L2, hy, J2⟩ => ⟨mu y, hy, y, L2, rfl, J2⟩, ?_⟩
    refine hs x hb L' _ σ' H1 (J.mono e1) (fun L3 τ3 m3 σ3 H3 q J3 => ?_) hr
    obtain ⟨y, hy, q1, rfl⟩ := q
    exact ⟨y, L3, hy, J3.wk q1⟩
  | false => exact hx L' _ _ σ' H1 (hd x hb) (J.mono e1)
end
end CE
namespace CE
open PySem PySem.Spec PyProof.Rows L2
open Evl (Ex rLenS rListS sz_of sz_lt)
/-- the i-th statement of the program -/
def top (i : Nat) : Stmt := PySem.Challenge.pw_columnengine_s01_answers.main.body.getD i (.Pass ⟨0, 0, 0, 0⟩)
/-- a def of the module, under its name -/
structure DefAt (K : PySem.W.Frag) (mg : Str → Option Value) (x : Str) (st : Stmt) : Prop where
  ex : ∃ (f : Addr) (fd : FuncData), L2.Fun K x x st f fd ∧ mg x = some (.ref f)
/-- a def that may be called by its name -/
structure CalX (P : Program) (w : World) (K : PySem.W.Frag) (mg : Str → Option Value) (base : Heap) (CX : CXT) (k : Nat) (x : Str) (sp : Sp) : Prop where
  ex : ∃ (f : Addr) (fd : FuncData) (ps : List Str), FnOk P w K mg base CX k f fd ps sp ∧ mg x = some (.ref f) ∧ PySem.W.keepIn K (.ref f) = true ∧ Binds K fd ps []
section
variable {P : Program} {w : World} {K : PySem.W.Frag} {mg : Str → Option Value} {base : Heap}
def BindsAt (x : Str) (st : Stmt) (ps : List Str) : Prop := ∀ (kV doc pm : Value) (an : Option Addr) (cdv ct : Value) (us : List Value), us.length = ps.length → bindArgs (PySem.W.fnOf x x (defArgs st) (defBody st) (defScope st) .none kV doc pm an cdv ct) ⟨us, []⟩ = pure (ps.zip us)
/-- a def that lets nothing out -/
theorem cal_of {x : Str} {st : Stmt} {N ps : List Str} {k : Nat} {sp : Sp} {t : TS} (Df : DefAt K mg x st) (S : FnScope N ps (defScope st)) (b : BindsAt x st ps) (len : ∀ vs H Q E, sp vs H Q E → vs.length = ps.length)
    (hb : ∀ (f : Addr) (cdv : Value) (A : Around) (outer : List Env) (s : Shared) (H : Hp) (E : XK), Room k (A.deeper (envOfC x (defScope st) s.heap.objs.size f cdv)) → PSs (cxOf CX0 P w K mg base N x (defScope st) f cdv A outer s H E).nox (defBody st) t)
    (hp : ∀ vs H Q E, sp vs H Q E → t { nx := fun _ H' => Q .non H', rt := Q } (start N vs) H) : CalX P w K mg base CX0 (k + 1) x sp := by
  obtain ⟨f, fd, F, hm⟩ := Df.ex
  exact ⟨f, fd, ps, F.ok S len (fun cdv A outer s H vs Q E hr h => ⟨t, hb f cdv A outer s H E hr, hp vs H Q E h⟩), hm, F.kp, F.binds b⟩
/-- a def that may let an error out; its reading takes what is wished of that -/
theorem cal_ofX {x : Str} {st : Stmt} {N ps : List Str} {k : Nat} {sp : Sp} {t : XK → TS} (Df : DefAt K mg x st) (S : FnScope N ps (defScope st)) (b : BindsAt x st ps) (len : ∀ vs H Q E, sp vs H Q E → vs.length = ps.length)
    (hb : ∀ (f : Addr) (cdv : Value) (A : Around) (outer : List Env) (s : Shared) (H : Hp) (E : XK), Room k (A.deeper (envOfC x (defScope st) s.heap.objs.size f cdv)) → PSs (cxOf (L2.CX P w) P w K mg base N x (defScope st) f cdv A outer s H E) (defBody st) (t E))
    (hp : ∀ vs H Q E, sp vs H Q E → t E { nx := fun _ H' => Q .non H', rt := Q } (start N vs) H) : CalX P w K mg base (L2.CX P w) (k + 1) x sp := by
  obtain ⟨f, fd, F, hm⟩ := Df.ex
  exact ⟨f, fd, ps, F.okX S len (fun cdv A outer s H vs Q E hr h => ⟨t E, hb f cdv A outer s H E hr, hp vs H Q E h⟩), hm, F.kp, F.binds b⟩
end
section
variable {X : Cx} {k j : Nat} {x : Str} {sp : Sp} {p pos : Pos} {e : Expr} {es : List Expr} {t : TA}
theorem pe_cal (c : CalX X.prog X.w X.K X.mg X.base CX0 k x sp) (hr : Room j X.A) (hk : k ≤ j) (hg : Gl X x) (ha : PA X (e :: es) t)
    (hdb : (x == ("__debug__" : Str)) = false := by decide) (he : starEach (e :: es) X.env = (false, eval e X.env) :: starEach es X.env := by rfl) (hpl : (backTo pos (starEach es X.env)).any (·.1) = false := by rfl) :
    PE X (.Call (.Name x p) (e :: es) [] pos) (tCall sp [] E0 t) := by
  obtain ⟨f, fd, ps, F, hm, kp, b⟩ := c.ex
  exact pe_call F (hr.mono hk) hg hm kp b .nil pass0 ha hdb he hpl
/-- .. one that may let an error out, where that leaves this def too -/
theorem pe_calX {E : XK} (c : CalX X.prog X.w X.K X.mg X.base (L2.CX X.prog X.w) k x sp) (hr : Room j X.A) (hk : k ≤ j) (hg : Gl X x) (hx : Passes (L2.CX X.prog X.w) X E) (ha : PA X (e :: es) t)
    (hdb : (x == ("__debug__" : Str)) = false := by decide) (he : starEach (e :: es) X.env = (false, eval e X.env) :: starEach es X.env := by rfl) (hpl : (backTo pos (starEach es X.env)).any (·.1) = false := by rfl) :
    PE X (.Call (.Name x p) (e :: es) [] pos) (tCall sp [] E t) := by
  obtain ⟨f, fd, ps, F, hm, kp, b⟩ := c.ex
  exact pe_call F (hr.mono hk) hg hm kp b .nil hx ha hdb he hpl
/-- a number that a name of the module holds -/
theorem pe_gI {i : Int} (hg : Gl X x) (h : ∃ t, X.mg x = some (.int i t)) (hd : (x == ("__debug__" : Str)) = false := by decide) : PE X (.Name x pos) (tC (.int i)) := by
  obtain ⟨t, hm⟩ := h
  exact pe_glob hg hm ⟨t, rfl⟩ hd
/-- // by any divisor but 0, of great numbers -/
def CDivZ (_ j : Int) : Prop := j ≠ 0 ∧ j.natAbs.log2 < 9000
theorem op_fdivZ : OpR X (binaryOp .FloorDiv) (rI CDivZ fun i j => .int (i.fdiv j)) := opI fun i j _ _ _ _ _ hc q => floordiv_int hc.1 q (.inl (PyProof.noPylong_of_log2 hc.2))
end
/-- the entry of a def over data -/
def entry (N : List Str) (ds : List PyData) : List SD := ds.map .val ++ List.replicate (N.length - ds.length) .no
theorem sl_entry {L : List Addr} {H : Hp} {C : Addr} {K : PySem.W.Frag} {N : List Str} {ds : List PyData} {vs : List V} {m : Dk} (hL : ∀ b ∈ L, ∃ o, H b = some o) (h : DmA (hid L H) ds vs) : Sl ⟨K, C, H, L, none, false⟩ L H (start N vs) (entry N ds) m where
  len := by
    unfold L2.start entry
    rw [List.length_append, List.length_append, List.length_map, List.length_map, List.length_replicate, List.length_replicate, dmA_length h]
  base := Ex.refl H
  lzero := fun b z => z
  wf := fun b z => .inl (hL b z)
  dom := hL
  sub := fun b z => .inl z
  slot := fun i s x h1 h2 => by
    have hl := dmA_length h
    unfold entry at h1
    unfold L2.start at h2
    by_cases hi : i < ds.length
    · rw [List.getElem?_append_left (by rw [List.length_map]; exact hi), List.getElem?_map] at h1
      rw [List.getElem?_append_left (by rw [List.length_map]; omega), List.getElem?_map] at h2
      cases e1 : ds[i]? with
      | none => rw [e1] at h1; cases h1
      | some d =>
        rw [e1] at h1
        obtain rfl := Option.some.inj h1
        obtain ⟨v, e2, hv⟩ := dmA_get h e1
        rw [e2] at h2
        obtain rfl := Option.some.inj h2
        exact ⟨v, rfl, hv⟩
    · rw [List.getElem?_append_right (by rw [List.length_map]; omega), List.getElem?_replicate] at h1
      split at h1
      · obtain rfl := Option.some.inj h1
        trivial
      · cases h1
  dist := fun i j es fs l h1 h2 h3 h4 => by
    exfalso
    unfold entry at h1
    by_cases hi : i < ds.length
    · rw [List.getElem?_append_left (by rw [List.length_map]; exact hi), List.getElem?_map] at h1
      cases e1 : ds[i]? with
      | none => rw [e1] at h1; cases h1
      | some d =>
        rw [e1] at h1
        have z : SD.val d = SD.own es := Option.some.inj h1
        cases z
    · rw [List.getElem?_append_right (by rw [List.length_map]; omega), List.getElem?_replicate] at h1
      split at h1
      · have z : SD.no = SD.own es := Option.some.inj h1
        cases z
      · cases h1
  dk := fun a z => nomatch z
theorem e_lenI {c : Cc} {τ : List SD} {m : Dk} {te : TE} {l : List Int} {K : PySem.W.Frag} (h : EvQ c te τ m (nI l)) : EvS c (tCB (rLenS K) (tCons te tNil)) τ m (.int (l.length : Int)) := (e_len h).is (by rw [List.length_map])
def m0 : Dk := ⟨0, [], []⟩
/-- from the data's run to the promise -/
theorem pure_of {N : List Str} {t : TS} {R : List PyData → PyData → Prop} (h : ∀ (c : Cc) ds d, c.a = none → R ds d → Rn c t (entry N ds) m0 (fun _ _ => d = .none) (fun d' _ => d' = d)) :
    ∀ vs H Q E, spD R vs H Q E → t { nx := fun _ H' => Q .non H', rt := Q } (start N vs) H := fun vs H Q E hs => by
  obtain ⟨L, ds, d, hL, hv, hr, q⟩ := hs
  refine h ⟨default, 0, H, L, none, false⟩ ds d rfl hr L _ _ H (sl_entry hL hv) (fun L' τ' m' σ' H' hn I => ?_) (fun d' m' v H' hd o hv => ?_)
  · refine q _ _ I.base ?_
    rw [hn]
    exact rfl
  · obtain rfl : d' = d := hd
    exact q v H' o.base hv
theorem spD_len {R : List PyData → PyData → Prop} {n : Nat} (h : ∀ ds d, R ds d → ds.length = n) : ∀ vs H Q E, spD R vs H Q E → vs.length = n := fun vs H Q E hs => by
  obtain ⟨L, ds, d, hL, hv, hr, q⟩ := hs
  rw [dmA_length hv]
  exact h ds d hr
/-- what the top has written of the error's class, at CR, and of the desk's, at C -/
structure RefTx (K : PySem.W.Frag) (mg : Str → Option Value) (CR : Addr) : Prop where
  g : mg "Refused" = some (.ref CR)
  oex : OexC K CR
  xf : XfC K CR
  nN : PySem.W.findIn K (.ref CR) "number" = some none
  te : PySem.W.exmOne K (.ref CR) (.ref CR) = some true
  init : ∃ (fI : Addr) (fd : FuncData), PySem.W.findIn K (.ref CR) "__init__" = some (some (.ref fI)) ∧ PySem.W.typeIn K (.ref fI) = some (.type "function") ∧ L2.Fun K "__init__" "Refused.__init__" (inClass (top 43) 0) fI fd
structure DskTx (K : PySem.W.Frag) (mg : Str → Option Value) (C : Addr) : Prop where
  g : mg "Desk" = some (.ref C)
  init : ∃ (fI : Addr) (fd : FuncData), Mk K C fI ∧ L2.Fun K "__init__" "Desk.__init__" (inClass (top 45) 0) fI fd
/-- what the top has written -/
structure Tx (K : PySem.W.Frag) (mg : Str → Option Value) (C CR : Addr) : Prop where
  b_abs : mg "abs" = none
  b_enumerate : mg "enumerate" = none
  b_int : mg "int" = none
  b_len : mg "len" = none
  b_list : mg "list" = none
  b_max : mg "max" = none
  b_min : mg "min" = none
  b_range : mg "range" = none
  b_reversed : mg "reversed" = none
  b_sum : mg "sum" = none
  b_zip : mg "zip" = none
  g_MOST_BORNE : ∃ t, mg "MOST_BORNE" = some (.int 4 t)
  g_FIRST_WHEELS : ∃ t, mg "FIRST_WHEELS" = some (.int 20 t)
  g_MOST_WHEELS : ∃ t, mg "MOST_WHEELS" = some (.int 30 t)
  g_MOST_COLUMNS : ∃ t, mg "MOST_COLUMNS" = some (.int 7 t)
  g_MOST_LINES : ∃ t, mg "MOST_LINES" = some (.int 60 t)
  g_MOST_DIFFERENCE : ∃ t, mg "MOST_DIFFERENCE" = some (.int 12 t)
  g_MOST_RIVAL : ∃ t, mg "MOST_RIVAL" = some (.int 6 t)
  g_MOST_X : ∃ t, mg "MOST_X" = some (.int 1000000 t)
  g_MOST_NUMBER : ∃ t, mg "MOST_NUMBER" = some (.int 1000000000000000000 t)
  d_shown : DefAt K mg "shown" (top 1)
  d_signed : DefAt K mg "signed" (top 2)
  d_turned : DefAt K mg "turned" (top 3)
  d_turned_back : DefAt K mg "turned_back" (top 4)
  d_half_turned : DefAt K mg "half_turned" (top 5)
  d_staggered : DefAt K mg "staggered" (top 6)
  d_printed : DefAt K mg "printed" (top 7)
  d_differences : DefAt K mg "differences" (top 10)
  d_is_below : DefAt K mg "is_below" (top 11)
  d_start_of : DefAt K mg "start_of" (top 12)
  d_degree_of : DefAt K mg "degree_of" (top 13)
  d_value_by : DefAt K mg "value_by" (top 14)
  d_choices : DefAt K mg "choices" (top 15)
  d_slip_at : DefAt K mg "slip_at" (top 16)
  d_clerk : DefAt K mg "clerk" (top 17)
  d_borne : DefAt K mg "borne" (top 18)
  d_product_at : DefAt K mg "product_at" (top 19)
  d_halfway : DefAt K mg "halfway" (top 20)
  d_common : DefAt K mg "common" (top 22)
  d_lowest : DefAt K mg "lowest" (top 23)
  d_value_through : DefAt K mg "value_through" (top 24)
  d_sums : DefAt K mg "sums" (top 25)
  d_pivot_row : DefAt K mg "pivot_row" (top 26)
  d_cleared : DefAt K mg "cleared" (top 27)
  d_reduced : DefAt K mg "reduced" (top 28)
  d_solved : DefAt K mg "solved" (top 29)
  d_worth : DefAt K mg "worth" (top 30)
  d_located : DefAt K mg "located" (top 31)
  d_is_through : DefAt K mg "is_through" (top 32)
  d_mended : DefAt K mg "mended" (top 33)
  d_ask : DefAt K mg "ask" (top 44)
  d_size_of : DefAt K mg "size_of" (top 46)
  d_told : DefAt K mg "told" (top 47)
  d_ask_within : DefAt K mg "ask_within" (top 48)
  d_ask_numbers : DefAt K mg "ask_numbers" (top 49)
  d_ask_start : DefAt K mg "ask_start" (top 50)
  d_ask_k : DefAt K mg "ask_k" (top 51)
  d_ask_columns : DefAt K mg "ask_columns" (top 52)
  d_wheels : DefAt K mg "wheels" (top 53)
  d_shown_all : DefAt K mg "shown_all" (top 54)
  d_set_columns : DefAt K mg "set_columns" (top 55)
  d_columns_told : DefAt K mg "columns_told" (top 56)
  d_crank : DefAt K mg "crank" (top 57)
  d_back : DefAt K mg "back" (top 58)
  d_half : DefAt K mg "half" (top 59)
  d_skip : DefAt K mg "skip" (top 60)
  d_sheet : DefAt K mg "sheet" (top 61)
  d_change : DefAt K mg "change" (top 62)
  d_differences_told : DefAt K mg "differences_told" (top 63)
  d_start_told : DefAt K mg "start_told" (top 64)
  d_value : DefAt K mg "value" (top 65)
  d_clean : DefAt K mg "clean" (top 66)
  d_clerk_told : DefAt K mg "clerk_told" (top 67)
  d_mend : DefAt K mg "mend" (top 68)
  d_bears : DefAt K mg "bears" (top 69)
  d_are_lines : DefAt K mg "are_lines" (top 70)
  d_rival : DefAt K mg "rival" (top 71)
  d_halfway_told : DefAt K mg "halfway_told" (top 72)
  d_first_unlike : DefAt K mg "first_unlike" (top 73)
  d_explain : DefAt K mg "explain" (top 74)
  d_stagger : DefAt K mg "stagger" (top 75)
  d_takes : DefAt K mg "takes" (top 76)
  d_clear : DefAt K mg "clear" (top 77)
  d_of_engine : DefAt K mg "of_engine" (top 78)
  d_of_sheet : DefAt K mg "of_sheet" (top 79)
  d_of_slips : DefAt K mg "of_slips" (top 80)
  d_answer : DefAt K mg "answer" (top 81)
  cl : Cls K C
  n_size : NoAttr K C "size"
  n_columns : NoAttr K C "columns"
  n_lines : NoAttr K C "lines"
  ref : RefTx K mg CR
  dsk : DskTx K mg C
end CE
namespace CE
open PySem PySem.Spec PyProof.Rows L2
open Evl (Ex rLenS rListS sz_of sz_lt)
/-! ### whole numbers walked -/
def toI : PyData → Int
  | .int i => i
  | _ => 0
theorem filt_true {α : Type} : ∀ l : List α, (l.filter fun _ => true) = l
  | [] => rfl
  | a :: l => by rw [List.filter_cons, if_pos rfl, filt_true l]
theorem nI_filter_map {f : Int → Bool} {v : Int → PyData} : ∀ l : List Int, ((nI l).filter fun d => f (toI d)).map (fun d => v (toI d)) = (l.filter f).map v
  | [] => rfl
  | a :: l => by
    have ih := nI_filter_map (f := f) (v := v) l
    show ((PyData.int a :: nI l).filter fun d => f (toI d)).map (fun d => v (toI d)) = _
    rw [List.filter_cons, List.filter_cons]
    cases h : f a with
    | true =>
      rw [if_pos (show f (toI (.int a)) = true from h), if_pos rfl, List.map_cons, List.map_cons, ih] <;> rfl
    | false =>
      rw [if_neg (by rw [show f (toI (.int a)) = false from h]; decide), if_neg (by decide), ih]
theorem nI_zip : ∀ l k : List Int, (nI l).zip (nI k) = (l.zip k).map fun p => (PyData.int p.1, PyData.int p.2)
  | [], _ => rfl
  | _ :: _, [] => rfl
  | a :: l, b :: k => by
    show (PyData.int a, PyData.int b) :: (nI l).zip (nI k) = _
    rw [nI_zip l k] <;> rfl
theorem zip_filter_map {f : Int → Int → Bool} {v : Int → Int → PyData} : ∀ l : List (Int × Int), ((l.map fun p => (PyData.int p.1, PyData.int p.2)).filter fun p => f (toI p.1) (toI p.2)).map (fun p => v (toI p.1) (toI p.2)) = (l.filter fun p => f p.1 p.2).map fun p => v p.1 p.2
  | [] => rfl
  | a :: l => by
    have ih := zip_filter_map (f := f) (v := v) l
    rw [List.map_cons, List.filter_cons, List.filter_cons]
    cases h : f a.1 a.2 with
    | true =>
      rw [if_pos (show f (toI (PyData.int a.1)) (toI (PyData.int a.2)) = true from h), if_pos rfl, List.map_cons, List.map_cons, ih] <;> rfl
    | false =>
      rw [if_neg (by rw [show f (toI (PyData.int a.1)) (toI (PyData.int a.2)) = false from h]; decide), if_neg (by decide), ih]
theorem mem_nI {l : List Int} {d : PyData} (h : d ∈ nI l) : ∃ i, i ∈ l ∧ d = .int i := by
  obtain ⟨i, hi, rfl⟩ := List.mem_map.mp h
  exact ⟨i, hi, rfl⟩
section
variable {c : Cc} {τ : List SD} {m : Dk} {ta tb tl te : TE} {tt : TT} {l k : List Int} {K : PySem.W.Frag} {vs : List Nat} {i j : Nat}
theorem n_lcLI {f : Int → Bool} {v : Int → PyData} (h : EvQ c tl τ m (nI l)) (hl : l.length ≤ 50000) (hj : j ∈ vs)
    (ht : ∀ d ∈ l, EvB c tt ((wipeT τ vs).set j (.val (.int d))) m (f d)) (he : ∀ d ∈ l, f d = true → EvS c te ((wipeT τ vs).set j (.val (.int d))) m (v d)) :
    EvN c (tLc (iList K tl) (gName j) tt te vs) τ m ((l.filter f).map v) :=
  (n_lcL (f := fun d => f (toI d)) (v := fun d => v (toI d)) h (by rw [List.length_map]; exact hl) hj (fun d hd => by obtain ⟨i, hi, rfl⟩ := mem_nI hd; exact ht i hi) (fun d hd hf => by obtain ⟨i, hi, rfl⟩ := mem_nI hd; exact he i hi hf)).is (nI_filter_map l)
theorem n_lcZI {f : Int → Int → Bool} {v : Int → Int → PyData} (ha : EvQ c ta τ m (nI l)) (hb : EvQ c tb τ m (nI k)) (hl : l.length ≤ 50000) (hi : i ∈ vs) (hj : j ∈ vs)
    (ht : ∀ p ∈ l.zip k, EvB c tt (((wipeT τ vs).set i (.val (.int p.1))).set j (.val (.int p.2))) m (f p.1 p.2)) (he : ∀ p ∈ l.zip k, f p.1 p.2 = true → EvS c te (((wipeT τ vs).set i (.val (.int p.1))).set j (.val (.int p.2))) m (v p.1 p.2)) :
    EvN c (tLc (iZip K (tCons ta (tCons tb tNil))) (gTup K 2 (gCons (gName i) (gCons (gName j) gNil))) tt te vs) τ m (((l.zip k).filter fun p => f p.1 p.2).map fun p => v p.1 p.2) :=
  (n_lcZ (f := fun a b => f (toI a) (toI b)) (v := fun a b => v (toI a) (toI b)) ha hb (by rw [List.length_map]; exact hl) hi hj
    (fun p hp => by rw [nI_zip] at hp; obtain ⟨q, hq, rfl⟩ := List.mem_map.mp hp; exact ht q hq) (fun p hp hf => by rw [nI_zip] at hp; obtain ⟨q, hq, rfl⟩ := List.mem_map.mp hp; exact he q hq hf)).is (by rw [nI_zip, zip_filter_map])
/-- without a test -/
theorem n_lcZ0 {v : Int → Int → Int} (ha : EvQ c ta τ m (nI l)) (hb : EvQ c tb τ m (nI k)) (hl : l.length ≤ 50000) (hi : i ∈ vs) (hj : j ∈ vs)
    (he : ∀ p ∈ l.zip k, EvS c te (((wipeT τ vs).set i (.val (.int p.1))).set j (.val (.int p.2))) m (.int (v p.1 p.2))) :
    EvN c (tLc (iZip K (tCons ta (tCons tb tNil))) (gTup K 2 (gCons (gName i) (gCons (gName j) gNil))) tYes te vs) τ m (nI ((l.zip k).map fun p => v p.1 p.2)) :=
  (n_lcZI (f := fun _ _ => true) (v := fun a b => .int (v a b)) ha hb hl hi hj (fun _ _ => b_yes) (fun p hp _ => he p hp)).is (by rw [filt_true]; show _ = List.map PyData.int _; rw [List.map_map] <;> rfl)
theorem n_lcL0 {v : Int → Int} (h : EvQ c tl τ m (nI l)) (hl : l.length ≤ 50000) (hj : j ∈ vs) (he : ∀ d ∈ l, EvS c te ((wipeT τ vs).set j (.val (.int d))) m (.int (v d))) :
    EvN c (tLc (iList K tl) (gName j) tYes te vs) τ m (nI (l.map v)) :=
  (n_lcLI (f := fun _ => true) (v := fun a => .int (v a)) h hl hj (fun _ _ => b_yes) (fun d hd _ => he d hd)).is (by rw [filt_true]; show _ = List.map PyData.int _; rw [List.map_map] <;> rfl)
theorem n_lcR0 {ta : TA} {n : Int} {v : Nat → PyData} (h : EvA c ta τ m [.int n]) (hn : n ≤ 50000) (hm : -50000 ≤ n) (hj : j ∈ vs) (he : ∀ i : Nat, (i : Int) < n → EvS c te ((wipeT τ vs).set j (.val (.int (i : Int)))) m (v i)) :
    EvN c (tLc (iRng1 ta) (gName j) tYes te vs) τ m ((List.range n.toNat).map v) :=
  (n_lcR (f := fun _ => true) h hn hm hj (fun _ _ => b_yes) (fun i hi _ => he i hi)).is (by unfold givenD; rw [filt_true])
end
/-! ### slices of whole numbers -/
def cutI (xs : List Int) (lo hi : Option Int) : List Int := (xs.drop (HT.sIx xs.length 0 lo)).take (HT.sIx xs.length xs.length hi - HT.sIx xs.length 0 lo)
theorem cutD_nI (l : List Int) (lo hi : Option Int) : cutD (nI l) lo hi = nI (cutI l lo hi) := by
  unfold cutD cutI
  show ((List.map PyData.int l).drop _).take _ = List.map PyData.int _
  rw [List.length_map, List.map_take, List.map_drop]
theorem n_sliceI {c : Cc} {τ : List SD} {m : Dk} {te : TE} {l : List Int} {K : PySem.W.Frag} {tl th : TO} {lo hi : Option Int} (h : EvQ c te τ m (nI l)) (h1 : EvO c tl τ m lo) (h2 : EvO c th τ m hi) : EvN c (tSl (rSlL K) te tl th) τ m (nI (cutI l lo hi)) :=
  (n_slice h h1 h2).is (cutD_nI l lo hi)
theorem cutI_init (l : List Int) : cutI l none (some (-1)) = l.dropLast := by
  have e : HT.sIx l.length l.length (some (-1)) = l.length - 1 := by
    show (if (-1 : Int) < 0 then (-1 + (l.length : Int)).toNat else min (-1 : Int).toNat l.length) = _
    rw [if_pos (by decide)]
    omega
  unfold cutI
  rw [e, HT.sIx_none, List.drop_zero, List.dropLast_eq_take, Nat.sub_zero]
theorem cutI_tail (l : List Int) : cutI l (some 1) none = l.tail := by
  have e : HT.sIx l.length 0 (some 1) = min 1 l.length := HT.sIx_nat l.length 0 1
  unfold cutI
  rw [e, HT.sIx_none]
  cases l with
  | nil => rfl
  | cons a l =>
    rw [List.length_cons, show min 1 (l.length + 1) = 1 by omega]
    show (List.drop 1 (a :: l)).take (l.length + 1 - 1) = l
    rw [show l.length + 1 - 1 = l.length by omega]
    exact List.take_length
theorem cutI_nat (l : List Int) (a b : Nat) (h : a ≤ b) (hb : b ≤ l.length) : cutI l (some (a : Int)) (some (b : Int)) = (l.drop a).take (b - a) := by
  unfold cutI
  rw [HT.sIx_nat, HT.sIx_nat, show min a l.length = a by omega, show min b l.length = b by omega]
/-! ### xs[i] op= e, and a swap -/
def rGetL (K : PySem.W.Frag) : V → V → Hp → VK → Prop := fun o y H Q => ∃ p xs i v, o = .ref p ∧ y = .int i ∧ SqL K H p xs ∧ 0 ≤ i ∧ xs[i.toNat]? = some v ∧ Q v H
theorem get_list {X : Cx} : PGet X (rGetL X.K) := by
  intro pins s σ H o y ov iv Q I ro ry h
  obtain ⟨p, xs, i, v, rfl, rfl, hq, h0, he, q⟩ := h
  cases ro
  obtain ⟨t, rfl⟩ := ry
  obtain ⟨its, r, pl, hz⟩ := I.list hq
  obtain ⟨w, ew, rw'⟩ := r.get he
  have hl := r.length
  have hn := line63
  have hi : i.toNat < xs.length := (List.getElem?_eq_some_iff.mp he).1
  exact getItem_listL pl.isList h0 (by omega) (by simpa using ew) ⟨v, H, I, rw', q⟩
section
variable {c : Cc} {τ : List SD} {m : Dk} {nx : List SD → Dk → Prop} {rt : PyData → Dk → Prop} {te tb ta : TE} {K : PySem.W.Frag}
theorem r_augS {i : Nat} {l : List Int} {z a : Int} (h : τ[i]? = some (.own (nI l))) (hz : EvS c tb τ m (.int z)) (h0 : 0 ≤ z) (hl : z < l.length) (he : EvS c te τ m (.int a)) (k : nx (τ.set i (.own (nI (l.set z.toNat (l.getD z.toNat 0 + a))))) m) :
    Rn c (tAugS (tVar i) tb te (rGetL K) (ipI fun i j => i + j) rSetL) τ m nx rt := fun L D σ H I hn hr => by
  obtain ⟨x, h1, l', xs, rfl, k1, k2, k3, k4, k5⟩ := I.get h
  refine ⟨_, h1, hz L H σ I _ fun w H1 e1 hw => ?_⟩
  obtain rfl : w = .int z := hw
  obtain rfl : xs = l.map V.int := dmA_ints k5
  have hg : (l.map V.int)[z.toNat]? = some (.int (l.getD z.toNat 0)) := by
    rw [List.getElem?_map, List.getD_eq_getElem?_getD, List.getElem?_eq_getElem (show z.toNat < l.length by omega)] <;> rfl
  refine ⟨l', _, z, _, rfl, rfl, .inl (.inl (e1 _ _ k4)), h0, hg, he L H1 σ (I.mono e1) _ fun v H2 e2 hv => ?_⟩
  obtain rfl : v = .int a := hv
  refine ⟨_, a, rfl, rfl, l', _, z, z.toNat, rfl, rfl, e2 _ _ (e1 _ _ k4), ?_, hn L _ m _ _ k ?_⟩
  · unfold ixN
    rw [if_pos h0, if_pos (by rw [List.length_map]; omega)]
  · refine ((I.mono e1).mono e2).wrO h h1 ?_
    rw [← List.map_set]
    exact dmA_ofInts _
/-- xs[i], xs[j] = e1, e2 -/
theorem r_swap {i : Nat} {ds : List PyData} {d1 d2 : PyData} {z1 z2 : Int} {ta tb t1 t2 : TE} (h : τ[i]? = some (.own ds)) (ha : EvS c ta τ m d1) (hb : EvS c tb τ m d2) (h1 : ∀ τ', EvS c t1 (τ.set i (.own τ')) m (.int z1)) (h2 : ∀ τ', EvS c t2 (τ.set i (.own τ')) m (.int z2))
    (l1 : 0 ≤ z1 ∧ z1 < ds.length) (l2 : 0 ≤ z2 ∧ z2 < ds.length) (k : nx (τ.set i (.own ((ds.set z1.toNat d1).set z2.toNat d2))) m) :
    Rn c (tAsg (tTup (tCons ta (tCons tb tNil))) (gTup K 2 (gCons (gSub (tVar i) t1 rSetL) (gCons (gSub (tVar i) t2 rSetL) gNil)))) τ m nx rt := fun L D σ H I hn hr => by
  refine e_two ha hb L H σ I fun v w H1 e1 hv hw => ⟨sz_of (by show 2 ≤ 100000; decide), fun p hp => ?_⟩
  have ex : Ex H1 (upd H1 p (.tup [v, w])) := Evl.Ex.new hp
  have I1 := (I.mono e1).mono ex
  have hi : i < τ.length := (List.getElem?_eq_some_iff.mp h).1
  have hself : τ.set i (.own ds) = τ := by
    refine List.ext_getElem? fun j => ?_
    by_cases e : i = j
    · subst e
      rw [List.getElem?_set_self hi, h]
    · rw [List.getElem?_set_ne e]
  refine ⟨p, [v, w], rfl, .inl (.inl upd_same), rfl, v, [w], rfl, ?_⟩
  obtain ⟨x, s1, l, xs, rfl, k1, k2, k3, k4, k5⟩ := I1.get h
  have hx : xs.length = ds.length := dmA_length k5
  have h1' := h1 ds
  rw [hself] at h1'
  refine ⟨_, s1, h1' L _ σ I1 _ fun u H2 e2 hu => ?_⟩
  obtain rfl : u = .int z1 := hu
  refine ⟨l, xs, z1, z1.toNat, rfl, rfl, e2 _ _ k4, ?_, ?_⟩
  · unfold ixN
    rw [if_pos l1.1, if_pos (by omega)]
  have I2 := (I1.mono e2).wrO h s1 (dmA_set (dm_mono (hid_mono (ex.trans e2)) _ _ hv) z1.toNat (dmA_mono (hid_mono e2) _ _ k5))
  have h' : (τ.set i (.own (ds.set z1.toNat d1)))[i]? = some (.own (ds.set z1.toNat d1)) := List.getElem?_set_self hi
  refine ⟨w, [], rfl, ?_⟩
  obtain ⟨y, s2, l2', ys, rfl, j1, j2, j3, j4, j5⟩ := I2.get h'
  have hy : ys.length = ds.length := by rw [dmA_length j5, List.length_set]
  rw [s1] at s2
  obtain rfl : l = l2' := V.ref.inj (Option.some.inj (Option.some.inj s2))
  refine ⟨_, s1, h2 _ L _ σ I2 _ fun u H3 e3 hu => ?_⟩
  obtain rfl : u = .int z2 := hu
  refine ⟨l, ys, z2, z2.toNat, rfl, rfl, e3 _ _ j4, ?_, rfl, ?_⟩
  · unfold ixN
    rw [if_pos l2.1, if_pos (by omega)]
  have hw' : Dm (hid L (upd H2 l (.lst (xs.set z1.toNat v)))) d2 w := by
    rw [hid_upd k1]
    exact dm_mono (hid_mono (ex.trans e2)) _ _ hw
  have I3 := (I2.mono e3).wrO h' s1 (dmA_set (dm_mono (hid_mono e3) _ _ hw') z2.toNat (dmA_mono (hid_mono e3) _ _ j5))
  rw [List.set_set] at I3
  exact hn L _ m σ _ k I3
end
end CE
namespace CE
open PySem PySem.Spec PyProof.Rows L2
open Evl (Ex rLenS rListS sz_of sz_lt)
/-! ### the desk's fields -/
theorem lk_here {k : Str} {v : V} {r : List (Str × V)} : List.lookup k ((k, v) :: r) = some v := by
  have e : (k == k) = true := beq_self_eq_true k
  simp only [List.lookup, e]
theorem lk_past {k g : Str} {v : V} {r : List (Str × V)} (h : (k == g) = false) : List.lookup k ((g, v) :: r) = List.lookup k r := by
  simp only [List.lookup, h]
theorem put_here {f : Str} {v x : V} {r : List (Str × V)} : putF f v ((f, x) :: r) = (f, v) :: r := if_pos rfl
theorem put_past {f g : Str} {v x : V} {r : List (Str × V)} (h : ¬ g = f) : putF f v ((g, x) :: r) = (g, x) :: putF f v r := if_neg h
theorem dk_size (m : Dk) (pc pl : Addr) : (dkF m pc pl).lookup ("size" : Str) = some (.int m.size) := lk_here
theorem dk_cols (m : Dk) (pc pl : Addr) : (dkF m pc pl).lookup ("columns" : Str) = some (.ref pc) := (lk_past (by decide +kernel)).trans lk_here
theorem dk_lines (m : Dk) (pc pl : Addr) : (dkF m pc pl).lookup ("lines" : Str) = some (.ref pl) := (lk_past (by decide +kernel)).trans ((lk_past (by decide +kernel)).trans lk_here)
theorem dk_putS (m : Dk) (pc pl : Addr) (z : Int) : putF "size" (.int z) (dkF m pc pl) = dkF { m with size := z } pc pl := put_here
theorem dk_putC (m : Dk) (pc pl p : Addr) (l : List Int) : putF "columns" (.ref p) (dkF m pc pl) = dkF { m with cols := l } p pl := (put_past (by decide +kernel)).trans (congrArg _ put_here)
theorem dk_putL (m : Dk) (pc pl p : Addr) (l : List Int) : putF "lines" (.ref p) (dkF m pc pl) = dkF { m with lines := l } pc p := (put_past (by decide +kernel)).trans (congrArg _ ((put_past (by decide +kernel)).trans (congrArg _ put_here)))
section
variable {c : Cc} {L : List Addr} {H H' : Hp} {σ : L2.St} {τ : List SD} {m m' : Dk}
/-- the desk has changed, all else stands -/
theorem Sl.after (I : Sl c L H σ τ m) (hm : c.mu = true) {a : Addr} (ha : c.a = some a) (k : ∀ b o, b ≠ a → H b = some o → H' b = some o) (d : DkAt c.C L H' a m') : Sl c L H' σ τ m' := by
  obtain ⟨al, ab, _⟩ := I.dk a ha
  have ab := ab hm
  have ex : Ex (hid L H) (hid L H') := fun b o h => by
    obtain ⟨n, h⟩ := hid_some h
    rw [hid_at n]
    exact k b o (fun z => n (z ▸ al)) h
  refine ⟨I.len, fun b o h => k b o (fun z => by rw [z, ab] at h; cases h) (I.base b o h), I.lzero, I.wf, fun b h => ?_, I.sub, fun i s x h1 h2 => ?_, I.dist, fun b hb => ?_⟩
  · by_cases e : b = a
    · obtain ⟨dx, pc, pl, q, _⟩ := d
      exact ⟨_, e ▸ q⟩
    · obtain ⟨o, q⟩ := I.dom b h
      exact ⟨o, k b o e q⟩
  · have q := I.slot i s x h1 h2
    cases s with
    | no => trivial
    | val d =>
      obtain ⟨v, rfl, q⟩ := q
      exact ⟨v, rfl, dm_mono ex _ _ q⟩
    | own ds =>
      obtain ⟨l, xs, rfl, q1, q2, q3, q4, q5⟩ := q
      exact ⟨l, xs, rfl, q1, q2, q3, k l _ (fun z => q3 (by rw [ha, z])) q4, dmA_mono ex _ _ q5⟩
    | desk => exact q
  · rw [ha] at hb
    cases hb
    exact ⟨al, fun _ => ab, d⟩
end
section
variable {c : Cc} {τ : List SD} {m : Dk} {K : PySem.W.Frag} {mg : Str → Option Value} {C CR : Addr} {i : Nat} {tv : TE} {nx : List SD → Dk → Prop} {rt : PyData → Dk → Prop}
theorem desk_at (hc : c.C = C) (h : τ[i]? = some .desk) {L : List Addr} {H : Hp} {σ : L2.St} (I : Sl c L H σ τ m) : ∃ a dx pc pl, c.a = some a ∧ σ[i]? = some (some (.ref a)) ∧ a ∈ L ∧ H a = some (.ins C dx (dkF m pc pl)) ∧ Dm (hid L H) (dI m.cols) (.ref pc) ∧ Dm (hid L H) (dI m.lines) (.ref pl) := by
  obtain ⟨x, hx, a, ha, rfl⟩ := I.get h
  obtain ⟨k1, k2, dx, pc, pl, k3, k4, k5⟩ := I.dk a ha
  rw [hc] at k3
  exact ⟨a, dx, pc, pl, ha, hx, k1, k3, k4, k5⟩
theorem e_size (T : Tx K mg C CR) (hc : c.C = C) (h : τ[i]? = some .desk) : EvS c (tFld K (tVar i) "size") τ m (.int m.size) := fun L H σ I Q q => by
  obtain ⟨a, dx, pc, pl, ha, hx, k1, k3, k4, k5⟩ := desk_at hc h I
  exact ⟨_, hx, a, C, dx, _, _, rfl, k3, T.cl, T.n_size, dk_size m pc pl, q _ H (Ex.refl H) rfl⟩
theorem e_cols (T : Tx K mg C CR) (hc : c.C = C) (h : τ[i]? = some .desk) : EvS c (tFld K (tVar i) "columns") τ m (dI m.cols) := fun L H σ I Q q => by
  obtain ⟨a, dx, pc, pl, ha, hx, k1, k3, k4, k5⟩ := desk_at hc h I
  exact ⟨_, hx, a, C, dx, _, _, rfl, k3, T.cl, T.n_columns, dk_cols m pc pl, q _ H (Ex.refl H) k4⟩
theorem e_lines (T : Tx K mg C CR) (hc : c.C = C) (h : τ[i]? = some .desk) : EvS c (tFld K (tVar i) "lines") τ m (dI m.lines) := fun L H σ I Q q => by
  obtain ⟨a, dx, pc, pl, ha, hx, k1, k3, k4, k5⟩ := desk_at hc h I
  exact ⟨_, hx, a, C, dx, _, _, rfl, k3, T.cl, T.n_lines, dk_lines m pc pl, q _ H (Ex.refl H) k5⟩
theorem few (m : Dk) (pc pl : Addr) : (dkF m pc pl).length < 1000 := by show 3 < 1000; decide
theorem r_putS (T : Tx K mg C CR) (hc : c.C = C) (hm : c.mu = true) (h : τ[i]? = some .desk) {z : Int} (hv : EvS c tv τ m (.int z)) (k : nx τ { m with size := z }) : Rn c (sFld K (tVar i) tv "size") τ m nx rt := fun L D σ H I hn hr =>
  hv L H σ I _ fun v H1 e1 q1 => by
  obtain rfl : v = .int z := q1
  obtain ⟨a, dx, pc, pl, ha, hx, k1, k3, k4, k5⟩ := desk_at hc h (I.mono e1)
  refine ⟨_, hx, a, C, dx, _, rfl, k3, T.cl, T.n_size, few m pc pl, hn L τ _ σ _ k ((I.mono e1).after hm ha (fun b o hb q => by rw [upd_ne hb]; exact q) ?_)⟩
  rw [dk_putS]
  exact ⟨dx, pc, pl, by rw [hc]; exact upd_same, by rw [hid_upd k1]; exact k4, by rw [hid_upd k1]; exact k5⟩
theorem r_putC (T : Tx K mg C CR) (hc : c.C = C) (hm : c.mu = true) (h : τ[i]? = some .desk) {l : List Int} (hv : EvS c tv τ m (dI l)) (k : nx τ { m with cols := l }) : Rn c (sFld K (tVar i) tv "columns") τ m nx rt := fun L D σ H I hn hr =>
  hv L H σ I _ fun v H1 e1 q1 => by
  obtain ⟨a, dx, pc, pl, ha, hx, k1, k3, k4, k5⟩ := desk_at hc h (I.mono e1)
  obtain ⟨p, xs, rfl, q1⟩ := q1
  refine ⟨_, hx, a, C, dx, _, rfl, k3, T.cl, T.n_columns, few m pc pl, hn L τ _ σ _ k ((I.mono e1).after hm ha (fun b o hb q => by rw [upd_ne hb]; exact q) ?_)⟩
  rw [dk_putC m pc pl p l]
  exact ⟨dx, p, pl, by rw [hc]; exact upd_same, by rw [hid_upd k1]; exact ⟨p, xs, rfl, q1⟩, by rw [hid_upd k1]; exact k5⟩
theorem r_putL (T : Tx K mg C CR) (hc : c.C = C) (hm : c.mu = true) (h : τ[i]? = some .desk) {l : List Int} (hv : EvS c tv τ m (dI l)) (k : nx τ { m with lines := l }) : Rn c (sFld K (tVar i) tv "lines") τ m nx rt := fun L D σ H I hn hr =>
  hv L H σ I _ fun v H1 e1 q1 => by
  obtain ⟨a, dx, pc, pl, ha, hx, k1, k3, k4, k5⟩ := desk_at hc h (I.mono e1)
  obtain ⟨p, xs, rfl, q1⟩ := q1
  refine ⟨_, hx, a, C, dx, _, rfl, k3, T.cl, T.n_lines, few m pc pl, hn L τ _ σ _ k ((I.mono e1).after hm ha (fun b o hb q => by rw [upd_ne hb]; exact q) ?_)⟩
  rw [dk_putL m pc pl p l]
  exact ⟨dx, pc, p, by rw [hc]; exact upd_same, by rw [hid_upd k1]; exact k4, by rw [hid_upd k1]; exact ⟨p, xs, rfl, q1⟩⟩
end
/-! ### promises of defs that refuse, and of those that take the desk -/
abbrev xdN (z : Int) : HO := .xd [("number", .int z)]
/-- asks something of data: nothing, or a refusal -/
def spE (CR : Addr) (R : List PyData → Option Int → Prop) : Sp := fun vs H Q E => ∃ L ds r, (∀ b ∈ L, ∃ o, H b = some o) ∧ DmA (hid L H) ds vs ∧ R ds r ∧
  (r = none → ∀ H', Ex H H' → Q .non H') ∧ (∀ z, r = some z → ∀ e H', Ex H H' → H' e = some (xdN z) → E (.ref CR) (some e) H')
inductive Res where
  | ok (d : PyData) (m : Dk)
  | no (z : Int)
/-- the desk, then data -/
structure AtK (C : Addr) (vs : List V) (H : Hp) (a : Addr) (m : Dk) (L : List Addr) (ds : List PyData) : Prop where
  arg : ∃ rest, vs = .ref a :: rest ∧ DmA (hid L H) ds rest
  mem : a ∈ L
  dom : ∀ b ∈ L, ∃ o, H b = some o
  dk : DkAt C L H a m
def spK (C CR : Addr) (R : Dk → List PyData → Res → Prop) : Sp := fun vs H Q E => ∃ a m L ds r, AtK C vs H a m L ds ∧ R m ds r ∧
  (∀ d m', r = .ok d m' → ∀ v H', (∀ b o, b ≠ a → H b = some o → H' b = some o) → DkAt C L H' a m' → Dm (hid L H') d v → Q v H') ∧
  (∀ z, r = .no z → ∀ e H', (∀ b o, b ≠ a → H b = some o → H' b = some o) → DkAt C L H' a m → H' e = some (xdN z) → E (.ref CR) (some e) H')
/-- the desk is read alone -/
def spR (C : Addr) (R : Dk → List PyData → PyData → Prop) : Sp := fun vs H Q _ => ∃ a m L ds d, AtK C vs H a m L ds ∧ R m ds d ∧ ∀ v H', Ex H H' → Dm (hid L H') d v → Q v H'
theorem atK_len {C : Addr} {vs : List V} {H : Hp} {a : Addr} {m : Dk} {L : List Addr} {ds : List PyData} (h : AtK C vs H a m L ds) : vs.length = ds.length + 1 := by
  obtain ⟨rest, rfl, hr⟩ := h.arg
  rw [List.length_cons, dmA_length hr]
theorem spK_len {C CR : Addr} {R : Dk → List PyData → Res → Prop} {n : Nat} (h : ∀ m ds r, R m ds r → ds.length + 1 = n) : ∀ vs H Q E, spK C CR R vs H Q E → vs.length = n := fun vs H Q E hs => by
  obtain ⟨a, m, L, ds, r, k, hr, _⟩ := hs
  rw [atK_len k]
  exact h m ds r hr
theorem spR_len {C : Addr} {R : Dk → List PyData → PyData → Prop} {n : Nat} (h : ∀ m ds r, R m ds r → ds.length + 1 = n) : ∀ vs H Q E, spR C R vs H Q E → vs.length = n := fun vs H Q E hs => by
  obtain ⟨a, m, L, ds, r, k, hr, _⟩ := hs
  rw [atK_len k]
  exact h m ds r hr
theorem spE_len {CR : Addr} {R : List PyData → Option Int → Prop} {n : Nat} (h : ∀ ds r, R ds r → ds.length = n) : ∀ vs H Q E, spE CR R vs H Q E → vs.length = n := fun vs H Q E hs => by
  obtain ⟨L, ds, r, hL, hv, hr, _⟩ := hs
  rw [dmA_length hv]
  exact h ds r hr
def entryK (N : List Str) (ds : List PyData) : List SD := .desk :: (ds.map .val ++ List.replicate (N.length - (ds.length + 1)) .no)
theorem sl_entryK {C : Addr} {K : PySem.W.Frag} {vs : List V} {H : Hp} {a : Addr} {m : Dk} {L : List Addr} {ds : List PyData} {N : List Str} (h : AtK C vs H a m L ds) : Sl ⟨K, C, hid [a] H, L, some a, true⟩ L H (L2.start N vs) (entryK N ds) m := by
  obtain ⟨rest, rfl, hr⟩ := h.arg
  have hl := dmA_length hr
  have est : L2.start N (.ref a :: rest) = some (.ref a) :: (rest.map some ++ List.replicate (N.length - (ds.length + 1)) none) := by
    unfold L2.start
    rw [List.length_cons, hl] <;> rfl
  rw [est]
  have tail : ∀ (i : Nat) (s : SD) (x : Option V), (ds.map SD.val ++ List.replicate (N.length - (ds.length + 1)) SD.no)[i]? = some s → (rest.map some ++ List.replicate (N.length - (ds.length + 1)) none)[i]? = some x → (s = .no ∨ ∃ d v, s = .val d ∧ x = some v ∧ Dm (hid L H) d v) := fun i s x h1 h2 => by
    by_cases hi : i < ds.length
    · rw [List.getElem?_append_left (by rw [List.length_map]; exact hi), List.getElem?_map] at h1
      rw [List.getElem?_append_left (by rw [List.length_map]; omega), List.getElem?_map] at h2
      cases e1 : ds[i]? with
      | none => rw [e1] at h1; cases h1
      | some d =>
        rw [e1] at h1
        obtain rfl := Option.some.inj h1
        obtain ⟨v, e2, hv⟩ := dmA_get hr e1
        rw [e2] at h2
        obtain rfl := Option.some.inj h2
        exact .inr ⟨d, v, rfl, rfl, hv⟩
    · rw [List.getElem?_append_right (by rw [List.length_map]; omega), List.getElem?_replicate] at h1
      split at h1
      · exact .inl (Option.some.inj h1).symm
      · cases h1
  have hidA : ∀ {b : Addr}, b ≠ a → hid [a] H b = H b := fun {b} hb => hid_at (by simpa using hb)
  exact {
    len := by
      unfold entryK
      rw [List.length_cons, List.length_cons, List.length_append, List.length_append, List.length_map, List.length_map, List.length_replicate, List.length_replicate, hl]
    base := hid_ex
    lzero := fun b z => z
    wf := fun b z => by
      by_cases e : b = a
      · exact .inr (by rw [e])
      · obtain ⟨o, q⟩ := h.dom b z
        exact .inl ⟨o, (hidA e).trans q⟩
    dom := h.dom
    sub := fun b z => .inl z
    slot := fun i s x h1 h2 => by
      cases i with
      | zero =>
        obtain rfl : SD.desk = s := by simpa [entryK] using h1
        obtain rfl : some (V.ref a) = x := by simpa using h2
        exact ⟨a, rfl, rfl⟩
      | succ i =>
        rcases tail i s x (by simpa [entryK] using h1) (by simpa using h2) with rfl | ⟨d, v, rfl, rfl, hv⟩
        · trivial
        · exact ⟨v, rfl, hv⟩
    dist := fun i j es fs l h1 h2 h3 h4 => by
      exfalso
      cases i with
      | zero =>
        have z : SD.desk = SD.own es := by simpa [entryK] using h1
        cases z
      | succ i =>
        rcases tail i _ (some (.ref l)) (by simpa [entryK] using h1) (by simpa using h3) with z | ⟨d, v, z, _⟩
        · cases z
        · cases z
    dk := fun b hb => by
      cases hb
      exact ⟨h.mem, fun _ => hid_in (by simp), h.dk⟩ }
/-- from the data's run to the promise -/
theorem pureK_of {N : List Str} {C CR : Addr} {t : XK → TS} {R : Dk → List PyData → Res → Prop}
    (h : ∀ (c : Cc) (E : XK) (m : Dk) ds r, c.C = C → c.mu = true → R m ds r → (∀ z e H', r = .no z → Out c H' m → H' e = some (xdN z) → E (.ref CR) (some e) H') → Rn c (t E) (entryK N ds) m (fun _ m' => r = .ok .none m') (fun d m' => r = .ok d m')) :
    ∀ vs H Q E, spK C CR R vs H Q E → t E { nx := fun _ H' => Q .non H', rt := Q } (L2.start N vs) H := fun vs H Q E hs => by
  obtain ⟨a, m, L, ds, r, k, hr, hok, hno⟩ := hs
  have fr : ∀ {H'}, Ex (hid [a] H) H' → ∀ b o, b ≠ a → H b = some o → H' b = some o := fun {H'} ex b o hb q => ex b o (by rw [hid_at (by simpa using hb)]; exact q)
  refine h ⟨default, C, hid [a] H, L, some a, true⟩ E m ds r rfl rfl hr (fun z e H' hz o he => hno z hz e H' (fr o.base) (o.dk a rfl) he) L _ _ H (sl_entryK k) (fun L' τ' m' σ' H' hn I => ?_) (fun d m' v H' hd o hv => ?_)
  · exact hok _ _ hn _ _ (fr I.base) (I.out.dk a rfl) rfl
  · exact hok d m' hd v H' (fr o.base) (o.dk a rfl) hv
theorem sl_entryR {C : Addr} {K : PySem.W.Frag} {vs : List V} {H : Hp} {a : Addr} {m : Dk} {L : List Addr} {ds : List PyData} {N : List Str} (h : AtK C vs H a m L ds) : Sl ⟨K, C, H, L, some a, false⟩ L H (L2.start N vs) (entryK N ds) m := by
  have J := sl_entryK (K := K) (N := N) h
  refine ⟨J.len, Ex.refl H, J.lzero, fun b z => .inl (h.dom b z), J.dom, fun b z => .inl z, fun i s x h1 h2 => ?_, J.dist, fun b hb => ?_⟩
  · have k := J.slot i s x h1 h2
    cases s with
    | no => trivial
    | val d => exact k
    | own ds =>
      exfalso
      obtain ⟨l, xs, rfl, k1, k2, k3, k4, k5⟩ := k
      have k2 : hid [a] H l = none := k2
      rw [hid_at (by simpa using fun z : l = a => k3 (by rw [z]))] at k2
      rw [k2] at k4
      cases k4
    | desk => exact k
  · cases hb
    exact ⟨h.mem, (fun z => Bool.noConfusion z), h.dk⟩
/-- .. the desk read alone -/
theorem pureR_of {N : List Str} {C : Addr} {t : TS} {R : Dk → List PyData → PyData → Prop}
    (h : ∀ (c : Cc) (m : Dk) ds d, c.C = C → R m ds d → Rn c t (entryK N ds) m (fun _ _ => d = .none) (fun d' _ => d' = d)) :
    ∀ vs H Q E, spR C R vs H Q E → t { nx := fun _ H' => Q .non H', rt := Q } (L2.start N vs) H := fun vs H Q E hs => by
  obtain ⟨a, m, L, ds, d, k, hr, q⟩ := hs
  refine h ⟨default, C, H, L, some a, false⟩ m ds d rfl hr L _ _ H (sl_entryR k) (fun L' τ' m' σ' H' hn I => ?_) (fun d' m' v H' hd o hv => ?_)
  · refine q _ _ I.base ?_
    rw [hn]
    exact rfl
  · obtain rfl : d' = d := hd
    exact q v H' o.base hv
/-- from the data's run to the promise, of a def that asks -/
theorem pureE_of {N : List Str} {CR : Addr} {t : XK → TS} {R : List PyData → Option Int → Prop}
    (h : ∀ (c : Cc) (E : XK) ds r, R ds r → (∀ z e H' m, r = some z → Out c H' m → H' e = some (xdN z) → E (.ref CR) (some e) H') → Rn c (t E) (entry N ds) m0 (fun _ _ => r = none) (fun _ _ => False)) :
    ∀ vs H Q E, spE CR R vs H Q E → t E { nx := fun _ H' => Q .non H', rt := Q } (L2.start N vs) H := fun vs H Q E hs => by
  obtain ⟨L, ds, r, hL, hv, hr, hok, hno⟩ := hs
  refine h ⟨default, 0, H, L, none, false⟩ E ds r hr (fun z e H' m hz o he => hno z hz e H' o.base he) L _ _ H (sl_entry hL hv) (fun L' τ' m' σ' H' hn I => hok hn H' I.base) (fun d m' v H' hd o hv => hd.elim)
/-! ### calls of such defs -/
section
variable {c : Cc} {τ : List SD} {m : Dk} {nx : List SD → Dk → Prop} {rt : PyData → Dk → Prop} {ta : TA} {ds : List PyData} {d : PyData} {C CR : Addr} {E : XK} {i : Nat}
/-- ask..(..): nothing is refused | it is -/
theorem r_ask {R : List PyData → Option Int → Prop} (h : EvA c ta τ m ds) (hr : R ds none) (k : nx τ m) : Rn c (tDrop (tCall (spE CR R) [] E ta)) τ m nx rt := fun L D σ H I hn hrt => h L H σ I _ fun vs H1 e1 k1 =>
  ⟨L, ds, none, (I.mono e1).dom, by rw [List.append_nil]; exact k1, hr, (fun _ H' e2 => hn L τ m σ H' k (I.mono (e1.trans e2))), (fun z q => nomatch q)⟩
theorem r_askNo {R : List PyData → Option Int → Prop} {z : Int} (h : EvA c ta τ m ds) (hr : R ds (some z)) (hE : ∀ e H', Out c H' m → H' e = some (xdN z) → E (.ref CR) (some e) H') : Rn c (tDrop (tCall (spE CR R) [] E ta)) τ m nx rt := fun L D σ H I hn hrt => h L H σ I _ fun vs H1 e1 k1 =>
  ⟨L, ds, some z, (I.mono e1).dom, by rw [List.append_nil]; exact k1, hr, (fun q => nomatch q), fun z' q e H' e2 he => by
    obtain rfl := Option.some.inj q
    exact hE e H' (I.mono (e1.trans e2)).out he⟩
theorem atK_of {L : List Addr} {H : Hp} {σ : L2.St} {rest : List V} (hc : c.C = C) {a : Addr} (ha : c.a = some a) (I : Sl c L H σ τ m) (hr : DmA (hid L H) ds rest) : AtK C (.ref a :: rest) H a m L ds := by
  obtain ⟨k1, k2, k3⟩ := I.dk a ha
  rw [hc] at k3
  exact ⟨⟨rest, rfl, hr⟩, k1, I.dom, k3⟩
/-- f(desk, ..) that reads it alone -/
theorem e_callR {R : Dk → List PyData → PyData → Prop} (hc : c.C = C) (hd : τ[i]? = some .desk) (h : EvA c ta τ m ds) (hr : R m ds d) : EvS c (tCall (spR C R) [] E (tCons (tVar i) ta)) τ m d := fun L H σ I Q q => by
  obtain ⟨x, hx, a, ha, rfl⟩ := I.get hd
  refine ⟨_, hx, h L H σ I _ fun vs H1 e1 k1 => ?_⟩
  show spR C R ((.ref a :: vs) ++ []) H1 Q E
  rw [List.append_nil]
  exact ⟨a, m, L, ds, d, atK_of hc ha (I.mono e1) k1, hr, fun v H' e2 k2 => q v H' (e1.trans e2) k2⟩
/-- f(desk, ..), as a statement or given back -/
theorem r_callK {R : Dk → List PyData → Res → Prop} {m' : Dk} (hc : c.C = C) (hm : c.mu = true) (hd : τ[i]? = some .desk) (h : EvA c ta τ m ds) (hr : R m ds (.ok d m')) (k : nx τ m') : Rn c (tDrop (tCall (spK C CR R) [] E (tCons (tVar i) ta))) τ m nx rt := fun L D σ H I hn hrt => by
  obtain ⟨x, hx, a, ha, rfl⟩ := I.get hd
  refine ⟨_, hx, h L H σ I _ fun vs H1 e1 k1 => ?_⟩
  show spK C CR R ((.ref a :: vs) ++ []) H1 _ E
  rw [List.append_nil]
  refine ⟨a, m, L, ds, .ok d m', atK_of hc ha (I.mono e1) k1, hr, fun d' m'' q v H' fr dk dm => ?_, (fun z q => nomatch q)⟩
  cases q
  exact hn L τ m' σ H' k ((I.mono e1).after hm ha fr (by rw [hc]; exact dk))
theorem r_callKNo {R : Dk → List PyData → Res → Prop} {z : Int} (hc : c.C = C) (hm : c.mu = true) (hd : τ[i]? = some .desk) (h : EvA c ta τ m ds) (hr : R m ds (.no z)) (hE : ∀ e H', Out c H' m → H' e = some (xdN z) → E (.ref CR) (some e) H') : Rn c (tDrop (tCall (spK C CR R) [] E (tCons (tVar i) ta))) τ m nx rt := fun L D σ H I hn hrt => by
  obtain ⟨x, hx, a, ha, rfl⟩ := I.get hd
  refine ⟨_, hx, h L H σ I _ fun vs H1 e1 k1 => ?_⟩
  show spK C CR R ((.ref a :: vs) ++ []) H1 _ E
  rw [List.append_nil]
  refine ⟨a, m, L, ds, .no z, atK_of hc ha (I.mono e1) k1, hr, fun d' m'' q => (nomatch q), fun z' q e H' fr dk he => ?_⟩
  cases q
  exact hE e H' ((I.mono e1).after hm ha fr (by rw [hc]; exact dk)).out he
theorem r_retK {R : Dk → List PyData → Res → Prop} {r : Res} (hc : c.C = C) (hm : c.mu = true) (hd : τ[i]? = some .desk) (h : EvA c ta τ m ds) (hr : R m ds r) (hok : ∀ d m', r = .ok d m' → rt d m') (hE : ∀ z e H', r = .no z → Out c H' m → H' e = some (xdN z) → E (.ref CR) (some e) H') :
    Rn c (tRet (tCall (spK C CR R) [] E (tCons (tVar i) ta))) τ m nx rt := fun L D σ H I hn hrt => by
  obtain ⟨x, hx, a, ha, rfl⟩ := I.get hd
  refine ⟨_, hx, h L H σ I _ fun vs H1 e1 k1 => ?_⟩
  show spK C CR R ((.ref a :: vs) ++ []) H1 _ E
  rw [List.append_nil]
  refine ⟨a, m, L, ds, r, atK_of hc ha (I.mono e1) k1, hr, fun d' m'' q v H' fr dk dm => ?_, fun z' q e H' fr dk he => ?_⟩
  · have J := (I.mono e1).after hm ha fr (by rw [hc]; exact dk)
    exact hrt d' m'' v H' (hok d' m'' q) J.out (dm_mono (hid_sub I.lzero) _ _ dm)
  · exact hE z' e H' q ((I.mono e1).after hm ha fr (by rw [hc]; exact dk)).out he
end
/-! ### the error's own __init__ -/
def spIn (CR : Addr) : Sp := fun vs H Q _ => ∃ (a : Addr) (y : V), vs = [.ref a, y] ∧ H a = some (exo a CR none) ∧ ∀ dx, H dx = none → dx ≠ a → Q .non (upd (upd H dx (exd dx [(("number" : Str), y)])) a (exo a CR (some dx)))
abbrev s_rinit : Stmt := inClass (top 43) 0
theorem sc_rinit : FnScope ["self", "number"] ["self", "number"] (defScope s_rinit) := C8.fnScope_by (by decide +kernel)
theorem ok_rinit {P : Program} {w : World} {K : PySem.W.Frag} {mg : Str → Option Value} {base : Heap} {CR : Addr} {f : Addr} {fd : FuncData} (F : L2.Fun K "__init__" "Refused.__init__" s_rinit f fd) (T : OexC K CR) (hn : PySem.W.findIn K (.ref CR) "number" = some none) : FnOk P w K mg base CX0 1 f fd ["self", "number"] (spIn CR) := by
  refine F.ok sc_rinit (fun vs H Q E h => ?_) (fun cdv A outer s H vs Q E hr h => ⟨tOst K "number" (tVar 0) (tVar 1), pss_one (ps_ost (pv 0) (pv 1)), ?_⟩)
  · obtain ⟨a, y, rfl, _⟩ := h
    rfl
  · obtain ⟨a, y, rfl, ha, k⟩ := h
    exact ⟨_, rfl, _, rfl, a, CR, rfl, T, hn, .inl ⟨ha, fun dx h1 h2 => k dx h1 h2⟩⟩
theorem bi_rinit {K : PySem.W.Frag} {f : Addr} {fd : FuncData} (F : L2.Fun K "__init__" "Refused.__init__" s_rinit f fd) : Binds K fd ["self", "number"] [] := F.binds fun _ _ _ _ _ _ us hl => match us, hl with | [_, _], _ => rfl
/-- raise Refused(e) -/
def tRef (CR : Addr) (E : XK) (ta : TA) : TS := fun _ σ H => tMkO CR (spIn CR) [] ta σ H fun cls d H' => E cls d H'
theorem ps_refuse {X : Cx} {CR : Addr} {E : XK} {ta : TA} {e : Expr} {p pos pos2 : Pos} (T : RefTx X.K X.mg CR) (hc : X.calm = true) (hr : Room 2 X.A) (tk : Takes X (fun cls d _ H => E cls d H)) (hg : Gl X "Refused") (ha : PA X [e] ta)
    (he : starEach (e :: []) X.env = (false, eval e X.env) :: starEach [] X.env := by rfl) (hpl : (backTo pos (starEach [] X.env)).any (·.1) = false := by rfl) :
    PS X (.Raise (some (.Call (.Name "Refused" p) [e] [] pos)) none pos2) (tRef CR E ta) := by
  obtain ⟨fI, fd, h1, h2, F⟩ := T.init
  exact ps_raise hc tk (pmk_oex T.oex h1 h2 (ok_rinit F T.oex T.nN) hr (bi_rinit F) .nil pass0 hg T.g ha (by decide) he hpl)
theorem r_refuse {c : Cc} {τ : List SD} {m : Dk} {nx : List SD → Dk → Prop} {rt : PyData → Dk → Prop} {te : TE} {CR : Addr} {E : XK} {z : Int} (h : EvS c te τ m (.int z)) (hE : ∀ e H', Out c H' m → H' e = some (xdN z) → E (.ref CR) (some e) H') : Rn c (tRef CR E (tCons te tNil)) τ m nx rt := fun L D σ H I hn hrt =>
  h L H σ I _ fun v H1 e1 k1 => by
  obtain rfl : v = .int z := k1
  refine ⟨by show 1 ≤ 1000; decide, fun a na => ⟨a, .int z, rfl, upd_same, fun dx hdx hne => ⟨rfl, dx, [(("number" : Str), .int z)], upd_same, ?_, ?_, ?_⟩⟩⟩
  · rw [upd_ne hne, upd_same]
  · rw [upd_ne hne] at hdx
    exact hdx
  · rw [upd_ne hne] at hdx
    have ex : Ex H1 (upd (del (upd (upd (upd H1 a (exo a CR none)) dx (exd dx [(("number" : Str), V.int z)])) a (exo a CR (some dx))) a) dx (.xd [(("number" : Str), .int z)])) := fun b o q => by
      have hb : b ≠ a := ne_of_none q na
      have hd : b ≠ dx := ne_of_none q hdx
      rw [upd_ne hd, del_ne hb, upd_ne hb, upd_ne hd, upd_ne hb]
      exact q
    exact hE dx _ ((I.mono e1).mono ex).out upd_same
end CE
namespace CE
open PySem PySem.Spec PyProof.Rows L2
open Evl (Ex rLenS rListS sz_of sz_lt)

/-! #### shown -/
def R_shown (ds : List PyData) (d : PyData) : Prop := ∃ z size : Int, ds = [.int z, .int size] ∧ 0 < size ∧ d = .int (z % size)
theorem len_shown : ∀ ds d, R_shown ds d → ds.length = 2 := fun _ _ ⟨_, _, h, _⟩ => by rw [h] <;> rfl
abbrev s_shown : Stmt := top 1
abbrev N_shown : List Str := ["z", "size"]
theorem sc_shown : FnScope N_shown ["z", "size"] (defScope s_shown) := C8.fnScope_by (by decide +kernel)
theorem bi_shown : BindsAt "shown" s_shown ["z", "size"] := fun _ _ _ _ _ _ us hl => match us, hl with | [_, _], _ => rfl
def t_shown (K : PySem.W.Frag) : TS :=
  (tRet (tOp (rI (fun _ j => 0 < j) fun i j => .int (i % j)) (tVar 0) (tVar 1)))
theorem d_shown {P : Program} {w : World} {K : PySem.W.Frag} {mg : Str → Option Value} {base : Heap} {C CR : Addr} (T : Tx K mg C CR) (f : Addr) (cdv : Value) (A : Around) (outer : List Env) (s : Shared) (H : Hp) (E : XK) (hr : Room 0 (A.deeper (envOfC "shown" (defScope s_shown) s.heap.objs.size f cdv))) :
    PSs (cxOf CX0 P w K mg base N_shown "shown" (defScope s_shown) f cdv A outer s H E).nox (defBody s_shown) (t_shown K) :=
  (pss_one (ps_ret (pe_op op_mod (pv 0) (pv 1))))
theorem run_shown {K : PySem.W.Frag} (c : Cc) (ds : List PyData) (d : PyData) (ha : c.a = none) (h : R_shown ds d) : Rn c (t_shown K) (entry N_shown ds) m0 (fun _ _ => d = .none) (fun d' _ => d' = d) := by
  obtain ⟨z, size, rfl, hs, rfl⟩ := h
  exact r_ret (e_I (e_var rfl) (e_var rfl) hs) rfl
theorem cal_shown {P : Program} {w : World} {K : PySem.W.Frag} {mg : Str → Option Value} {base : Heap} {C CR : Addr} (T : Tx K mg C CR) : CalX P w K mg base CX0 1 "shown" (spD R_shown) :=
  cal_of T.d_shown sc_shown bi_shown (spD_len len_shown) (d_shown T) (pure_of run_shown)

/-! #### signed -/
def signedM (h size : Int) : Int := if 2 * h < size then h else h - size
def R_signed (ds : List PyData) (d : PyData) : Prop := ∃ h size : Int, ds = [.int h, .int size] ∧ d = .int (signedM h size)
theorem len_signed : ∀ ds d, R_signed ds d → ds.length = 2 := fun _ _ ⟨_, _, h, _⟩ => by rw [h] <;> rfl
abbrev s_signed : Stmt := top 2
abbrev N_signed : List Str := ["held", "size"]
theorem sc_signed : FnScope N_signed ["held", "size"] (defScope s_signed) := C8.fnScope_by (by decide +kernel)
theorem bi_signed : BindsAt "signed" s_signed ["held", "size"] := fun _ _ _ _ _ _ us hl => match us, hl with | [_, _], _ => rfl
def t_signed (K : PySem.W.Frag) : TS :=
  (tSeq (tIfS (tTest (tOp (rI0 fun i j => .bl (decide (i < j))) (tOp (rI CMul fun i j => .int (i * j)) (tC (.int 2)) (tVar 0)) (tVar 1))) (tRet (tVar 0)) tNext)
    (tRet (tOp (rI0 fun i j => .int (i - j)) (tVar 0) (tVar 1))))
theorem d_signed {P : Program} {w : World} {K : PySem.W.Frag} {mg : Str → Option Value} {base : Heap} {C CR : Addr} (T : Tx K mg C CR) (f : Addr) (cdv : Value) (A : Around) (outer : List Env) (s : Shared) (H : Hp) (E : XK) (hr : Room 0 (A.deeper (envOfC "signed" (defScope s_signed) s.heap.objs.size f cdv))) :
    PSs (cxOf CX0 P w K mg base N_signed "signed" (defScope s_signed) f cdv A outer s H E).nox (defBody s_signed) (t_signed K) :=
  (pss_cons (ps_if (pt_cmpR op_lt (pe_op op_mul pe_int (pv 0)) (pv 1) (nomark _)) (pss_one (ps_ret (pv 0))) pss_nil)
    (pss_one (ps_ret (pe_op op_sub (pv 0) (pv 1)))))
theorem run_signed {K : PySem.W.Frag} (c : Cc) (ds : List PyData) (d : PyData) (ha : c.a = none) (h : R_signed ds d) : Rn c (t_signed K) (entry N_signed ds) m0 (fun _ _ => d = .none) (fun d' _ => d' = d) := by
  obtain ⟨z, size, rfl, rfl⟩ := h
  refine r_seq (r_if (b_test (e_C0 (e_I e_int (e_var rfl) (.inl ⟨by decide, by decide⟩)) (e_var rfl))) (fun hb => ?_) (fun hb => ?_))
  · refine r_ret (e_var rfl) ?_
    unfold signedM
    rw [if_pos (of_decide_eq_true hb)]
  · refine r_next (r_ret (e_I0 (e_var rfl) (e_var rfl)) ?_)
    unfold signedM
    rw [if_neg (of_decide_eq_false hb)]
theorem cal_signed {P : Program} {w : World} {K : PySem.W.Frag} {mg : Str → Option Value} {base : Heap} {C CR : Addr} (T : Tx K mg C CR) : CalX P w K mg base CX0 1 "signed" (spD R_signed) :=
  cal_of T.d_signed sc_signed bi_signed (spD_len len_signed) (d_signed T) (pure_of run_signed)

/-! #### turned -/
/-- the first i columns turned -/
def turnedTo (cols : List Int) (size stuck : Int) (i : Nat) : List Int := (List.range cols.length).map fun j => if j < i ∧ (j : Int) ≠ stuck then (cols.getD j 0 + cols.getD (j + 1) 0) % size else cols.getD j 0
def turnedM (cols : List Int) (size stuck : Int) : List Int := turnedTo cols size stuck (cols.length - 1)
theorem turnedTo_len {cols : List Int} {size stuck : Int} {i : Nat} : (turnedTo cols size stuck i).length = cols.length := by unfold turnedTo; rw [List.length_map, List.length_range]
theorem range_getD (cols : List Int) : (List.range cols.length).map (fun j => cols.getD j 0) = cols := by
  refine List.ext_getElem? fun j => ?_
  rw [List.getElem?_map]
  by_cases h : j < cols.length
  · rw [List.getElem?_range h, Option.map_some, List.getD_eq_getElem?_getD, List.getElem?_eq_getElem h] <;> rfl
  · rw [List.getElem?_eq_none (by rw [List.length_range]; omega), List.getElem?_eq_none (by omega)] <;> rfl
theorem turnedTo_zero {cols : List Int} {size stuck : Int} : turnedTo cols size stuck 0 = cols := by
  unfold turnedTo
  refine Eq.trans (List.map_congr_left fun j _ => ?_) (range_getD cols)
  rw [if_neg (by omega)]
theorem set_range {α : Type} (f : Nat → α) (n i : Nat) (v : α) : ((List.range n).map f).set i v = (List.range n).map fun j => if j = i then v else f j := by
  refine List.ext_getElem? fun j => ?_
  by_cases hj : j < n
  · rw [List.getElem?_map, List.getElem?_range hj, Option.map_some]
    by_cases e : i = j
    · subst e
      rw [List.getElem?_set_self (by rw [List.length_map, List.length_range]; exact hj), if_pos rfl]
    · rw [List.getElem?_set_ne e, List.getElem?_map, List.getElem?_range hj, if_neg (Ne.symm e)] <;> rfl
  · rw [List.getElem?_eq_none (by rw [List.length_set, List.length_map, List.length_range]; omega), List.getElem?_eq_none (by rw [List.length_map, List.length_range]; omega)]
theorem turnedTo_set {cols : List Int} {size stuck : Int} {i : Nat} (h : (i : Int) ≠ stuck) : (turnedTo cols size stuck i).set i ((cols.getD i 0 + cols.getD (i + 1) 0) % size) = turnedTo cols size stuck (i + 1) := by
  unfold turnedTo
  rw [set_range]
  refine List.map_congr_left fun j _ => ?_
  by_cases e : j = i
  · subst e
    rw [if_pos rfl, if_pos ⟨by omega, h⟩]
  · rw [if_neg e]
    by_cases hj : j < i ∧ (j : Int) ≠ stuck
    · rw [if_pos hj, if_pos ⟨by omega, hj.2⟩]
    · rw [if_neg hj, if_neg (by omega)]
theorem turnedTo_same {cols : List Int} {size stuck : Int} {i : Nat} (h : (i : Int) = stuck) : turnedTo cols size stuck i = turnedTo cols size stuck (i + 1) := by
  unfold turnedTo
  refine List.map_congr_left fun j _ => ?_
  by_cases hj : j < i ∧ (j : Int) ≠ stuck
  · rw [if_pos hj, if_pos ⟨by omega, hj.2⟩]
  · rw [if_neg hj, if_neg (by omega)]
def R_turned (ds : List PyData) (d : PyData) : Prop := ∃ (cols : List Int) (size stuck : Int), ds = [dI cols, .int size, .int stuck] ∧ 0 < size ∧ cols.length ≤ 1000 ∧ d = dI (turnedM cols size stuck)
theorem len_turned : ∀ ds d, R_turned ds d → ds.length = 3 := fun _ _ ⟨_, _, _, h, _⟩ => by rw [h] <;> rfl
theorem nI_set (l : List Int) (i : Nat) (z : Int) : (nI l).set i (.int z) = nI (l.set i z) := List.map_set.symm
abbrev s_turned : Stmt := top 3
abbrev N_turned : List Str := ["columns", "size", "stuck", "found", "j"]
theorem sc_turned : FnScope N_turned ["columns", "size", "stuck"] (defScope s_turned) := C8.fnScope_by (by decide +kernel)
theorem bi_turned : BindsAt "turned" s_turned ["columns", "size", "stuck"] := fun _ _ _ _ _ _ us hl => match us, hl with | [_, _, _], _ => rfl
def t_turned (K : PySem.W.Frag) : TS :=
  (tSeq (tAsg (tCB (rListS K) (tCons (tVar 0) tNil)) (gName 3))
    (tSeq (tFor (iRng1 (tCons (tOp (rI0 fun i j => .int (i - j)) (tCB (rLenS K) (tCons (tVar 0) tNil)) (tC (.int 1))) tNil)) (gName 4) (tIfS (tTest (tOp rNe (tVar 4) (tVar 2))) (tAsg (tOp (rI (fun _ j => 0 < j) fun i j => .int (i % j)) (tOp (rI0 fun i j => .int (i + j)) (tOp (rIxL K) (tVar 0) (tVar 4)) (tOp (rIxL K) (tVar 0) (tOp (rI0 fun i j => .int (i + j)) (tVar 4) (tC (.int 1))))) (tVar 1)) (gSub (tVar 3) (tVar 4) rSetL)) tNext))
    (tRet (tVar 3))))
theorem d_turned {P : Program} {w : World} {K : PySem.W.Frag} {mg : Str → Option Value} {base : Heap} {C CR : Addr} (T : Tx K mg C CR) (f : Addr) (cdv : Value) (A : Around) (outer : List Env) (s : Shared) (H : Hp) (E : XK) (hr : Room 0 (A.deeper (envOfC "turned" (defScope s_turned) s.heap.objs.size f cdv))) :
    PSs (cxOf CX0 P w K mg base N_turned "turned" (defScope s_turned) f cdv A outer s H E).nox (defBody s_turned) (t_turned K) :=
  (pss_cons (ps_set (i := 3) sc_turned.nd rfl (Or.inl rfl) (pe_callTy call_list_of (by rfl) T.b_list PyProof.Rows.boot_list (pa_cons (pv 0) pa_nil)))
    (pss_cons (ps_for PassesOwn.never rfl (pi_range1 (by rfl) T.b_range (pa_cons (pe_op op_sub (pe_callB call_len_seq (by rfl) T.b_len PySem.boot_len (pa_cons (pv 0) pa_nil)) pe_int) pa_nil)) (pg_name (i := 4) sc_turned.nd rfl (Or.inl rfl)) (pss_one (ps_if (pt_cmpR op_ne (pv 4) (pv 2) (nomark _)) (pss_one (ps_asg (pe_op op_mod (pe_op op_add (pe_ix ix_list (pv 0) (pv 4) (fun _ _ => rfl)) (pe_ix ix_list (pv 0) (pe_op op_add (pv 4) pe_int) (fun _ _ => rfl))) (pv 1)) (pg_sub (pv 3) (pv 4) set_list))) pss_nil)))
    (pss_one (ps_ret (pv 3)))))
theorem run_turned {K : PySem.W.Frag} (c : Cc) (ds : List PyData) (d : PyData) (ha : c.a = none) (h : R_turned ds d) : Rn c (t_turned K) (entry N_turned ds) m0 (fun _ _ => d = .none) (fun d' _ => d' = d) := by
  obtain ⟨cols, size, stuck, rfl, hs, hl, rfl⟩ := h
  refine r_seq (r_asgN (n_list (e_var rfl).q) ?_)
  refine r_seq (r_forR (a_cons (e_I0 (e_lenI (e_var rfl).q) e_int) a_nil) (by omega) (by omega) (fun i => [.val (dI cols), .val (.int size), .val (.int stuck), .own (nI (turnedTo cols size stuck i)), .no]) (fun _ => m0) (fun _ => True)
    ⟨.inr rfl, .inr rfl, .inr rfl, .inr (by rw [turnedTo_zero]), .inl rfl, trivial⟩ rfl trivial (fun B i hi _ => ?_) (fun _ => ?_))
  · refine r_if (b_test (e_neI (e_var rfl) (e_var rfl))) (fun hb => ?_) (fun hb => ?_)
    · have hn : (i : Int) ≠ stuck := by simpa using hb
      refine r_setI rfl (e_I (e_I0 (e_ixI (e_var rfl).q (e_var rfl) (by omega) (by omega)) (e_ixI (e_var rfl).q (e_I0 (e_var rfl) e_int) (by omega) (by omega))) (e_var rfl) hs) (e_var rfl) (by omega) (by rw [List.length_map, turnedTo_len]; omega) ⟨⟨.inr rfl, .inr rfl, .inr rfl, .inr ?_, .inl rfl, trivial⟩, rfl, trivial⟩
      rw [nI_set, ← turnedTo_set hn] <;> rfl
    · have hn : (i : Int) = stuck := by simpa using hb
      exact r_next ⟨⟨.inr rfl, .inr rfl, .inr rfl, .inr (by rw [turnedTo_same hn]), .inl rfl, trivial⟩, rfl, trivial⟩
  · refine r_retO rfl ?_
    have e : ((cols.length : Int) - 1).toNat = cols.length - 1 := by omega
    rw [e] <;> rfl
theorem cal_turned {P : Program} {w : World} {K : PySem.W.Frag} {mg : Str → Option Value} {base : Heap} {C CR : Addr} (T : Tx K mg C CR) : CalX P w K mg base CX0 1 "turned" (spD R_turned) :=
  cal_of T.d_turned sc_turned bi_turned (spD_len len_turned) (d_turned T) (pure_of run_turned)

/-! #### turned_back -/
/-- turned back, from the last column on -/
def backM (size : Int) : List Int → List Int
  | [] => []
  | [a] => [a]
  | a :: b :: l => (a - (backM size (b :: l)).getD 0 0) % size :: backM size (b :: l)
theorem backM_len (size : Int) : ∀ l : List Int, (backM size l).length = l.length
  | [] => rfl
  | [_] => rfl
  | a :: b :: l => by
    show (backM size (b :: l)).length + 1 = _
    rw [backM_len size (b :: l)] <;> rfl
theorem backM_drop {size : Int} {l : List Int} {j : Nat} (h : j + 1 < l.length) : backM size (l.drop j) = (l.getD j 0 - (backM size (l.drop (j + 1))).getD 0 0) % size :: backM size (l.drop (j + 1)) := by
  have e1 : l.drop j = l.getD j 0 :: l.drop (j + 1) := by
    rw [List.getD_eq_getElem?_getD, List.getElem?_eq_getElem (show j < l.length by omega)]
    exact (List.drop_eq_getElem_cons (by omega))
  have e2 : l.drop (j + 1) = l.getD (j + 1) 0 :: l.drop (j + 2) := by
    rw [List.getD_eq_getElem?_getD, List.getElem?_eq_getElem h]
    exact (List.drop_eq_getElem_cons h)
  rw [e1, e2]
  rfl
def backTo (size : Int) (cols : List Int) (k : Nat) : List Int := cols.take k ++ backM size (cols.drop k)
theorem backTo_len {size : Int} {cols : List Int} {k : Nat} : (backTo size cols k).length = cols.length := by
  unfold backTo
  rw [List.length_append, backM_len, ← List.length_append, List.take_append_drop]
theorem backTo_last {size : Int} {cols : List Int} : backTo size cols (cols.length - 1) = cols := by
  unfold backTo
  have h : backM size (cols.drop (cols.length - 1)) = cols.drop (cols.length - 1) := by
    have hl : (cols.drop (cols.length - 1)).length ≤ 1 := by rw [List.length_drop]; omega
    match cols.drop (cols.length - 1), hl with
    | [], _ => rfl
    | [_], _ => rfl
  rw [h, List.take_append_drop]
theorem backTo_set {size : Int} {cols : List Int} {j : Nat} (h : j + 1 < cols.length) : (backTo size cols (j + 1)).set j ((cols.getD j 0 - (backTo size cols (j + 1)).getD (j + 1) 0) % size) = backTo size cols j := by
  have hg : (backTo size cols (j + 1)).getD (j + 1) 0 = (backM size (cols.drop (j + 1))).getD 0 0 := by
    unfold backTo
    rw [List.getD_eq_getElem?_getD, List.getElem?_append_right (by rw [List.length_take]; omega), List.length_take, List.getD_eq_getElem?_getD]
    congr 2
    omega
  rw [hg]
  unfold backTo
  have e1 : cols.take (j + 1) = cols.take j ++ [cols.getD j 0] := by
    rw [List.getD_eq_getElem?_getD, List.getElem?_eq_getElem (show j < cols.length by omega), List.take_succ, List.getElem?_eq_getElem (show j < cols.length by omega)] <;> rfl
  have lt : (cols.take j).length = j := by rw [List.length_take]; omega
  rw [e1, List.append_assoc, List.set_append_right _ _ (by omega), lt, Nat.sub_self, backM_drop h] <;> rfl
def R_turned_back (ds : List PyData) (d : PyData) : Prop := ∃ (cols : List Int) (size : Int), ds = [dI cols, .int size] ∧ 0 < size ∧ cols.length ≤ 1000 ∧ d = dI (backM size cols)
theorem len_turned_back : ∀ ds d, R_turned_back ds d → ds.length = 2 := fun _ _ ⟨_, _, h, _⟩ => by rw [h] <;> rfl
abbrev s_turned_back : Stmt := top 4
abbrev N_turned_back : List Str := ["columns", "size", "found", "j"]
theorem sc_turned_back : FnScope N_turned_back ["columns", "size"] (defScope s_turned_back) := C8.fnScope_by (by decide +kernel)
theorem bi_turned_back : BindsAt "turned_back" s_turned_back ["columns", "size"] := fun _ _ _ _ _ _ us hl => match us, hl with | [_, _], _ => rfl
def t_turned_back (K : PySem.W.Frag) : TS :=
  (tSeq (tAsg (tCB (rListS K) (tCons (tVar 0) tNil)) (gName 2))
    (tSeq (tFor (iRevR (tRg1 (tOp (rI0 fun i j => .int (i - j)) (tCB (rLenS K) (tCons (tVar 0) tNil)) (tC (.int 1))))) (gName 3) (tAsg (tOp (rI (fun _ j => 0 < j) fun i j => .int (i % j)) (tOp (rI0 fun i j => .int (i - j)) (tOp (rIxL K) (tVar 0) (tVar 3)) (tOp (rIxL K) (tVar 2) (tOp (rI0 fun i j => .int (i + j)) (tVar 3) (tC (.int 1))))) (tVar 1)) (gSub (tVar 2) (tVar 3) rSetL)))
    (tRet (tVar 2))))
theorem d_turned_back {P : Program} {w : World} {K : PySem.W.Frag} {mg : Str → Option Value} {base : Heap} {C CR : Addr} (T : Tx K mg C CR) (f : Addr) (cdv : Value) (A : Around) (outer : List Env) (s : Shared) (H : Hp) (E : XK) (hr : Room 0 (A.deeper (envOfC "turned_back" (defScope s_turned_back) s.heap.objs.size f cdv))) :
    PSs (cxOf CX0 P w K mg base N_turned_back "turned_back" (defScope s_turned_back) f cdv A outer s H E).nox (defBody s_turned_back) (t_turned_back K) :=
  (pss_cons (ps_set (i := 2) sc_turned_back.nd rfl (Or.inl rfl) (pe_callTy call_list_of (by rfl) T.b_list PyProof.Rows.boot_list (pa_cons (pv 0) pa_nil)))
    (pss_cons (ps_for PassesOwn.never rfl (pi_revR (by rfl) T.b_reversed (prg_1 (by rfl) T.b_range (pe_op op_sub (pe_callB call_len_seq (by rfl) T.b_len PySem.boot_len (pa_cons (pv 0) pa_nil)) pe_int))) (pg_name (i := 3) sc_turned_back.nd rfl (Or.inl rfl)) (pss_one (ps_asg (pe_op op_mod (pe_op op_sub (pe_ix ix_list (pv 0) (pv 3) (fun _ _ => rfl)) (pe_ix ix_list (pv 2) (pe_op op_add (pv 3) pe_int) (fun _ _ => rfl))) (pv 1)) (pg_sub (pv 2) (pv 3) set_list))))
    (pss_one (ps_ret (pv 2)))))
theorem run_turned_back {K : PySem.W.Frag} (c : Cc) (ds : List PyData) (d : PyData) (ha : c.a = none) (h : R_turned_back ds d) : Rn c (t_turned_back K) (entry N_turned_back ds) m0 (fun _ _ => d = .none) (fun d' _ => d' = d) := by
  obtain ⟨cols, size, rfl, hs, hl, rfl⟩ := h
  refine r_seq (r_asgN (n_list (e_var rfl).q) ?_)
  refine r_seq (r_forV (e_I0 (e_lenI (e_var rfl).q) e_int) (by omega) (by omega) (fun i => [.val (dI cols), .val (.int size), .own (nI (backTo size cols (cols.length - 1 - i))), .no]) (fun _ => m0) (fun _ => True)
    ⟨.inr rfl, .inr rfl, .inr (by rw [Nat.sub_zero, backTo_last]), .inl rfl, trivial⟩ rfl trivial (fun B i hi _ => ?_) (fun _ => ?_))
  · obtain ⟨j, hj⟩ : ∃ j : Nat, cols.length - 1 - i = j + 1 := ⟨cols.length - 1 - i - 1, by omega⟩
    have ej : (cols.length : Int) - 1 - 1 - (i : Int) = (j : Int) := by omega
    rw [ej]
    rw [hj]
    refine r_setI rfl (e_I (e_I0 (e_ixI (e_var rfl).q (e_var rfl) (by omega) (by omega)) (e_ixI (q_var rfl) (e_I0 (e_var rfl) e_int) (by omega) (by rw [backTo_len]; omega))) (e_var rfl) hs) (e_var rfl) (by omega) (by rw [List.length_map, backTo_len]; omega) ⟨⟨.inr rfl, .inr rfl, .inr ?_, .inl rfl, trivial⟩, rfl, trivial⟩
    have e2 : cols.length - 1 - (i + 1) = j := by omega
    rw [nI_set, e2, ← backTo_set (show j + 1 < cols.length by omega)] <;> rfl
  · refine r_retO rfl ?_
    have e : cols.length - 1 - ((cols.length : Int) - 1).toNat = 0 := by omega
    rw [e] <;> rfl
theorem cal_turned_back {P : Program} {w : World} {K : PySem.W.Frag} {mg : Str → Option Value} {base : Heap} {C CR : Addr} (T : Tx K mg C CR) : CalX P w K mg base CX0 1 "turned_back" (spD R_turned_back) :=
  cal_of T.d_turned_back sc_turned_back bi_turned_back (spD_len len_turned_back) (d_turned_back T) (pure_of run_turned_back)

/-! #### half_turned -/
def halfTo (cols : List Int) (size : Int) (k i : Nat) : List Int := (List.range cols.length).map fun j => if j < k + 2 * i ∧ j % 2 = k % 2 ∧ k ≤ j then (cols.getD j 0 + cols.getD (j + 1) 0) % size else cols.getD j 0
def halfM (cols : List Int) (size : Int) (k : Nat) : List Int := halfTo cols size k ((cols.length - k) / 2)
theorem halfTo_len {cols : List Int} {size : Int} {k i : Nat} : (halfTo cols size k i).length = cols.length := by unfold halfTo; rw [List.length_map, List.length_range]
theorem halfTo_zero {cols : List Int} {size : Int} {k : Nat} : halfTo cols size k 0 = cols := by
  unfold halfTo
  refine Eq.trans (List.map_congr_left fun j _ => ?_) (range_getD cols)
  rw [if_neg (by omega)]
theorem halfTo_set {cols : List Int} {size : Int} {k i : Nat} : (halfTo cols size k i).set (k + i * 2) ((cols.getD (k + i * 2) 0 + cols.getD (k + i * 2 + 1) 0) % size) = halfTo cols size k (i + 1) := by
  unfold halfTo
  rw [set_range]
  refine List.map_congr_left fun j _ => ?_
  by_cases e : j = k + i * 2
  · subst e
    rw [if_pos rfl, if_pos (by omega)]
  · rw [if_neg e]
    by_cases hj : j < k + 2 * i ∧ j % 2 = k % 2 ∧ k ≤ j
    · rw [if_pos hj, if_pos (by omega)]
    · rw [if_neg hj, if_neg (by omega)]
theorem rgC_two {lo hi : Int} (h0 : 0 ≤ lo) (h1 : lo ≤ 10000) (h2 : -10000 ≤ hi) (h3 : hi ≤ 10000) : RgC lo hi 2 ((hi - lo + 1) / 2).toNat := by
  have e : Builtin.Range.rangeSize lo hi 2 = (((hi - lo + 1) / 2).toNat : Int) := by
    unfold Builtin.Range.rangeSize
    simp only [show ((2 : Int) > 0) by decide, if_true]
    split <;> omega
  refine ⟨by decide, by decide, ?_, e⟩
  unfold Builtin.Range.small
  rw [e]
  simp only [Builtin.Range.rangeFitsLong, Bool.and_eq_true, Bool.or_eq_true, decide_eq_true_eq, beq_iff_eq, show ((2 : Int) > 0) by decide, if_true]
  omega
def R_half_turned (ds : List PyData) (d : PyData) : Prop := ∃ (cols : List Int) (size : Int) (k : Nat), ds = [dI cols, .int size, .int (k : Int)] ∧ 0 < size ∧ cols.length ≤ 1000 ∧ k ≤ 1 ∧ d = dI (halfM cols size k)
theorem len_half_turned : ∀ ds d, R_half_turned ds d → ds.length = 3 := fun _ _ ⟨_, _, _, h, _⟩ => by rw [h] <;> rfl
abbrev s_half_turned : Stmt := top 5
abbrev N_half_turned : List Str := ["columns", "size", "kind", "found", "j"]
theorem sc_half_turned : FnScope N_half_turned ["columns", "size", "kind"] (defScope s_half_turned) := C8.fnScope_by (by decide +kernel)
theorem bi_half_turned : BindsAt "half_turned" s_half_turned ["columns", "size", "kind"] := fun _ _ _ _ _ _ us hl => match us, hl with | [_, _, _], _ => rfl
def t_half_turned (K : PySem.W.Frag) : TS :=
  (tSeq (tAsg (tCB (rListS K) (tCons (tVar 0) tNil)) (gName 3))
    (tSeq (tFor (iRng3 (tCons (tVar 2) (tCons (tOp (rI0 fun i j => .int (i - j)) (tCB (rLenS K) (tCons (tVar 0) tNil)) (tC (.int 1))) (tCons (tC (.int 2)) tNil)))) (gName 4) (tAsg (tOp (rI (fun _ j => 0 < j) fun i j => .int (i % j)) (tOp (rI0 fun i j => .int (i + j)) (tOp (rIxL K) (tVar 0) (tVar 4)) (tOp (rIxL K) (tVar 0) (tOp (rI0 fun i j => .int (i + j)) (tVar 4) (tC (.int 1))))) (tVar 1)) (gSub (tVar 3) (tVar 4) rSetL)))
    (tRet (tVar 3))))
theorem d_half_turned {P : Program} {w : World} {K : PySem.W.Frag} {mg : Str → Option Value} {base : Heap} {C CR : Addr} (T : Tx K mg C CR) (f : Addr) (cdv : Value) (A : Around) (outer : List Env) (s : Shared) (H : Hp) (E : XK) (hr : Room 0 (A.deeper (envOfC "half_turned" (defScope s_half_turned) s.heap.objs.size f cdv))) :
    PSs (cxOf CX0 P w K mg base N_half_turned "half_turned" (defScope s_half_turned) f cdv A outer s H E).nox (defBody s_half_turned) (t_half_turned K) :=
  (pss_cons (ps_set (i := 3) sc_half_turned.nd rfl (Or.inl rfl) (pe_callTy call_list_of (by rfl) T.b_list PyProof.Rows.boot_list (pa_cons (pv 0) pa_nil)))
    (pss_cons (ps_for PassesOwn.never rfl (pi_range3 (by rfl) T.b_range (pa_cons (pv 2) (pa_cons (pe_op op_sub (pe_callB call_len_seq (by rfl) T.b_len PySem.boot_len (pa_cons (pv 0) pa_nil)) pe_int) (pa_cons pe_int pa_nil)))) (pg_name (i := 4) sc_half_turned.nd rfl (Or.inl rfl)) (pss_one (ps_asg (pe_op op_mod (pe_op op_add (pe_ix ix_list (pv 0) (pv 4) (fun _ _ => rfl)) (pe_ix ix_list (pv 0) (pe_op op_add (pv 4) pe_int) (fun _ _ => rfl))) (pv 1)) (pg_sub (pv 3) (pv 4) set_list))))
    (pss_one (ps_ret (pv 3)))))
theorem run_half_turned {K : PySem.W.Frag} (c : Cc) (ds : List PyData) (d : PyData) (ha : c.a = none) (h : R_half_turned ds d) : Rn c (t_half_turned K) (entry N_half_turned ds) m0 (fun _ _ => d = .none) (fun d' _ => d' = d) := by
  obtain ⟨cols, size, k, rfl, hs, hl, hk, rfl⟩ := h
  refine r_seq (r_asgN (n_list (e_var rfl).q) ?_)
  refine r_seq (r_forR3 (a_cons (e_var rfl) (a_cons (e_I0 (e_lenI (e_var rfl).q) e_int) (a_cons e_int a_nil))) (rgC_two (by omega) (by omega) (by omega) (by omega)) (fun i => [.val (dI cols), .val (.int size), .val (.int (k : Int)), .own (nI (halfTo cols size k i)), .no]) (fun _ => m0) (fun _ => True)
    ⟨.inr rfl, .inr rfl, .inr rfl, .inr (by rw [halfTo_zero]), .inl rfl, trivial⟩ rfl trivial (fun B i hi _ => ?_) (fun _ => ?_))
  · have ej : (k : Int) + (i : Int) * 2 = ((k + i * 2 : Nat) : Int) := by omega
    rw [ej]
    have hj : k + i * 2 + 1 < cols.length := by omega
    refine r_setI rfl (e_I (e_I0 (e_ixI (e_var rfl).q (e_var rfl) (by omega) (by omega)) (e_ixI (e_var rfl).q (e_I0 (e_var rfl) e_int) (by omega) (by omega))) (e_var rfl) hs) (e_var rfl) (by omega) (by rw [List.length_map, halfTo_len]; omega) ⟨⟨.inr rfl, .inr rfl, .inr rfl, .inr ?_, .inl rfl, trivial⟩, rfl, trivial⟩
    rw [nI_set, ← halfTo_set] <;> rfl
  · refine r_retO rfl ?_
    have e : (((cols.length : Int) - 1 - (k : Int) + 1) / 2).toNat = (cols.length - k) / 2 := by omega
    rw [e] <;> rfl
theorem cal_half_turned {P : Program} {w : World} {K : PySem.W.Frag} {mg : Str → Option Value} {base : Heap} {C CR : Addr} (T : Tx K mg C CR) : CalX P w K mg base CX0 1 "half_turned" (spD R_half_turned) :=
  cal_of T.d_half_turned sc_half_turned bi_half_turned (spD_len len_half_turned) (d_half_turned T) (pure_of run_half_turned)

/-! #### staggered -/
def iter {α : Type} (f : α → α) : Nat → α → α
  | 0, x => x
  | n + 1, x => f (iter f n x)
def staggerM (size : Int) (cols : List Int) : List Int := (List.range cols.length).map fun j => (iter (backM size) (j / 2) cols).getD j 0
theorem iter_back_len (size : Int) (cols : List Int) : ∀ n, (iter (backM size) n cols).length = cols.length
  | 0 => rfl
  | n + 1 => by
    show (backM size _).length = _
    rw [backM_len, iter_back_len size cols n]
def R_staggered (ds : List PyData) (d : PyData) : Prop := ∃ (cols : List Int) (size : Int), ds = [dI cols, .int size] ∧ 0 < size ∧ cols.length ≤ 1000 ∧ d = dI (staggerM size cols)
theorem len_staggered : ∀ ds d, R_staggered ds d → ds.length = 2 := fun _ _ ⟨_, _, h, _⟩ => by rw [h] <;> rfl
theorem nI_range_succ (f : Nat → Int) (i : Nat) : nI ((List.range i).map f) ++ [.int (f i)] = nI ((List.range (i + 1)).map f) := by
  rw [List.range_succ, List.map_append]
  show _ = List.map PyData.int (_ ++ _)
  rw [List.map_append] <;> rfl
abbrev s_staggered : Stmt := top 6
abbrev N_staggered : List Str := ["columns", "size", "found", "earlier", "j"]
theorem sc_staggered : FnScope N_staggered ["columns", "size"] (defScope s_staggered) := C8.fnScope_by (by decide +kernel)
theorem bi_staggered : BindsAt "staggered" s_staggered ["columns", "size"] := fun _ _ _ _ _ _ us hl => match us, hl with | [_, _], _ => rfl
def t_staggered (K : PySem.W.Frag) : TS :=
  (tSeq (tAsg (tLst tNil) (gName 2))
    (tSeq (tAsg (tCB (rListS K) (tCons (tVar 0) tNil)) (gName 3))
    (tSeq (tFor (iRng1 (tCons (tCB (rLenS K) (tCons (tVar 0) tNil)) tNil)) (gName 4) (tSeq (tIfS (tAnd (tTest (tOp (rI0 fun i j => .bl (decide (j < i))) (tVar 4) (tC (.int 0)))) (tTest (tOp rEq (tOp (rI (fun _ j => 0 < j) fun i j => .int (i % j)) (tVar 4) (tC (.int 2))) (tC (.int 0))))) (tAsg (tCall (spD R_turned_back) [] E0 (tCons (tVar 3) (tCons (tVar 1) tNil))) (gName 3)) tNext)
    (tDrop (tBM K "list" rAppend (tVar 2) (tCons (tOp (rIxL K) (tVar 3) (tVar 4)) tNil)))))
    (tRet (tVar 2)))))
theorem d_staggered {P : Program} {w : World} {K : PySem.W.Frag} {mg : Str → Option Value} {base : Heap} {C CR : Addr} (T : Tx K mg C CR) (f : Addr) (cdv : Value) (A : Around) (outer : List Env) (s : Shared) (H : Hp) (E : XK) (hr : Room 1 (A.deeper (envOfC "staggered" (defScope s_staggered) s.heap.objs.size f cdv))) :
    PSs (cxOf CX0 P w K mg base N_staggered "staggered" (defScope s_staggered) f cdv A outer s H E).nox (defBody s_staggered) (t_staggered K) :=
  (pss_cons (ps_set (i := 2) sc_staggered.nd rfl (Or.inl rfl) (pe_lst pa_nil))
    (pss_cons (ps_set (i := 3) sc_staggered.nd rfl (Or.inl rfl) (pe_callTy call_list_of (by rfl) T.b_list PyProof.Rows.boot_list (pa_cons (pv 0) pa_nil)))
    (pss_cons (ps_for PassesOwn.never rfl (pi_range1 (by rfl) T.b_range (pa_cons (pe_callB call_len_seq (by rfl) T.b_len PySem.boot_len (pa_cons (pv 0) pa_nil)) pa_nil)) (pg_name (i := 4) sc_staggered.nd rfl (Or.inl rfl)) (pss_cons (ps_if (PW.pt (pw_and (pt_cmpR op_gt (pv 4) pe_int (nomark _)) (pw_and1 (pt_cmpR op_eq (pe_op op_mod (pv 4) pe_int) pe_int (nomark _))))) (pss_one (ps_set (i := 3) sc_staggered.nd rfl (Or.inl rfl) (pe_cal (cal_turned_back T) hr (by decide) (by rfl) (pa_cons (pv 3) (pa_cons (pv 1) pa_nil))))) pss_nil)
    (pss_one (ps_expr (pe_bm PySem.F.plainAttrs_list PySem.F.slot_list_append PySem.F.type_list_append mt_append (pv 2) (pa_cons (pe_ix ix_list (pv 3) (pv 4) (fun _ _ => rfl)) pa_nil))))))
    (pss_one (ps_ret (pv 2))))))
theorem run_staggered {K : PySem.W.Frag} (c : Cc) (ds : List PyData) (d : PyData) (ha : c.a = none) (h : R_staggered ds d) : Rn c (t_staggered K) (entry N_staggered ds) m0 (fun _ _ => d = .none) (fun d' _ => d' = d) := by
  obtain ⟨cols, size, rfl, hs, hl, rfl⟩ := h
  refine r_seq (r_asgN (n_lst a_nil (by decide)) ?_)
  refine r_seq (r_asg (n_list (e_var rfl).q).s ?_)
  refine r_seq (r_forR (a_cons (e_lenI (e_var rfl).q) a_nil) (by omega) (by omega) (fun i => [.val (dI cols), .val (.int size), .own (nI ((List.range i).map fun j => (iter (backM size) (j / 2) cols).getD j 0)), .val (dI (iter (backM size) ((i - 1) / 2) cols)), .no]) (fun _ => m0) (fun _ => True)
    ⟨.inr rfl, .inr rfl, .inr rfl, .inr rfl, .inl rfl, trivial⟩ rfl trivial (fun B i hi _ => ?_) (fun _ => ?_))
  · have key : ∀ τ, τ = [SD.val (dI cols), .val (.int size), .own (nI ((List.range i).map fun j => (iter (backM size) (j / 2) cols).getD j 0)), .val (dI (iter (backM size) (i / 2) cols)), .val (.int (i : Int))] →
        Rn (c.on B) (tDrop (tBM K "list" rAppend (tVar 2) (tCons (tOp (rIxL K) (tVar 3) (tVar 4)) tNil))) τ m0 (fun τ' m' => WkL τ' [.val (dI cols), .val (.int size), .own (nI ((List.range (i + 1)).map fun j => (iter (backM size) (j / 2) cols).getD j 0)), .val (dI (iter (backM size) ((i + 1 - 1) / 2) cols)), .no] ∧ m' = m0 ∧ True) (fun d' _ => d' = dI (staggerM size cols)) := fun τ e => by
      subst e
      refine r_app rfl (e_ixI (e_var rfl).q (e_var rfl) (by omega) (by rw [iter_back_len]; omega)) (by rw [List.length_map, List.length_map, List.length_range]; omega) ⟨⟨.inr rfl, .inr rfl, .inr ?_, .inr rfl, .inl rfl, trivial⟩, rfl, trivial⟩
      rw [← nI_range_succ] <;> rfl
    refine r_seq (r_if (b_and (b_test (e_C0 (e_var rfl) e_int)) fun _ => b_test (e_eqI (e_I (e_var rfl) e_int (by decide)) e_int)) (fun hb => ?_) (fun hb => ?_))
    · rw [Bool.and_eq_true, decide_eq_true_eq, decide_eq_true_eq] at hb
      refine r_asg (e_call (a_cons (e_var rfl) (a_cons (e_var rfl) a_nil)) ⟨_, size, rfl, hs, by rw [iter_back_len]; exact hl, rfl⟩) (key _ ?_)
      have e : i / 2 = (i - 1) / 2 + 1 := by omega
      rw [e] <;> rfl
    · have e : i / 2 = (i - 1) / 2 := by
        rw [Bool.and_eq_false_iff, decide_eq_false_iff_not, decide_eq_false_iff_not] at hb
        omega
      refine r_next (key _ ?_)
      rw [e] <;> rfl
  · refine r_retO rfl ?_
    rw [Int.toNat_natCast] <;> rfl
theorem cal_staggered {P : Program} {w : World} {K : PySem.W.Frag} {mg : Str → Option Value} {base : Heap} {C CR : Addr} (T : Tx K mg C CR) : CalX P w K mg base CX0 2 "staggered" (spD R_staggered) :=
  cal_of T.d_staggered sc_staggered bi_staggered (spD_len len_staggered) (d_staggered T) (pure_of run_staggered)

/-! #### printed -/
/-- the columns behind t turns; in the turn 'turn' a column is stuck -/
def colsAt (size turn stuck : Int) (cols : List Int) : Nat → List Int
  | 0 => cols
  | t + 1 => turnedM (colsAt size turn stuck cols t) size (if (t : Int) = turn then stuck else -1)
theorem turnedM_len (cols : List Int) (size stuck : Int) : (turnedM cols size stuck).length = cols.length := turnedTo_len
theorem colsAt_len (size turn stuck : Int) (cols : List Int) : ∀ t, (colsAt size turn stuck cols t).length = cols.length
  | 0 => rfl
  | t + 1 => by
    show (turnedM _ _ _).length = _
    rw [turnedM_len, colsAt_len size turn stuck cols t]
def printedM (size turn stuck : Int) (cols : List Int) (n : Nat) : List Int := (List.range n).map fun t => signedM ((colsAt size turn stuck cols t).getD 0 0) size
def R_printed (ds : List PyData) (d : PyData) : Prop := ∃ (cols : List Int) (size turn stuck : Int) (n : Nat), ds = [dI cols, .int size, .int (n : Int), .int turn, .int stuck] ∧ 0 < size ∧ 0 < cols.length ∧ cols.length ≤ 1000 ∧ n ≤ 1000 ∧ d = dI (printedM size turn stuck cols n)
theorem len_printed : ∀ ds d, R_printed ds d → ds.length = 5 := fun _ _ ⟨_, _, _, _, _, h, _⟩ => by rw [h] <;> rfl
abbrev s_printed : Stmt := top 7
abbrev N_printed : List Str := ["columns", "size", "many", "turn", "stuck", "found", "t"]
theorem sc_printed : FnScope N_printed ["columns", "size", "many", "turn", "stuck"] (defScope s_printed) := C8.fnScope_by (by decide +kernel)
theorem bi_printed : BindsAt "printed" s_printed ["columns", "size", "many", "turn", "stuck"] := fun _ _ _ _ _ _ us hl => match us, hl with | [_, _, _, _, _], _ => rfl
def t_printed (K : PySem.W.Frag) : TS :=
  (tSeq (tAsg (tLst tNil) (gName 5))
    (tSeq (tFor (iRng1 (tCons (tVar 2) tNil)) (gName 6) (tSeq (tDrop (tBM K "list" rAppend (tVar 5) (tCons (tCall (spD R_signed) [] E0 (tCons (tOp (rIxL K) (tVar 0) (tC (.int 0))) (tCons (tVar 1) tNil))) tNil)))
    (tIfS (tTest (tOp rEq (tVar 6) (tVar 3))) (tAsg (tCall (spD R_turned) [] E0 (tCons (tVar 0) (tCons (tVar 1) (tCons (tVar 4) tNil)))) (gName 0)) (tAsg (tCall (spD R_turned) [] E0 (tCons (tVar 0) (tCons (tVar 1) (tCons (tUn (rU fun i => .int (-i)) (tC (.int 1))) tNil)))) (gName 0)))))
    (tRet (tVar 5))))
theorem d_printed {P : Program} {w : World} {K : PySem.W.Frag} {mg : Str → Option Value} {base : Heap} {C CR : Addr} (T : Tx K mg C CR) (f : Addr) (cdv : Value) (A : Around) (outer : List Env) (s : Shared) (H : Hp) (E : XK) (hr : Room 1 (A.deeper (envOfC "printed" (defScope s_printed) s.heap.objs.size f cdv))) :
    PSs (cxOf CX0 P w K mg base N_printed "printed" (defScope s_printed) f cdv A outer s H E).nox (defBody s_printed) (t_printed K) :=
  (pss_cons (ps_set (i := 5) sc_printed.nd rfl (Or.inl rfl) (pe_lst pa_nil))
    (pss_cons (ps_for PassesOwn.never rfl (pi_range1 (by rfl) T.b_range (pa_cons (pv 2) pa_nil)) (pg_name (i := 6) sc_printed.nd rfl (Or.inl rfl)) (pss_cons (ps_expr (pe_bm PySem.F.plainAttrs_list PySem.F.slot_list_append PySem.F.type_list_append mt_append (pv 5) (pa_cons (pe_cal (cal_signed T) hr (by decide) (by rfl) (pa_cons (pe_ix ix_list (pv 0) pe_int (fun _ _ => rfl)) (pa_cons (pv 1) pa_nil))) pa_nil)))
    (pss_one (ps_if (pt_cmpR op_eq (pv 6) (pv 3) (nomark _)) (pss_one (ps_set (i := 0) sc_printed.nd rfl (Or.inl rfl) (pe_cal (cal_turned T) hr (by decide) (by rfl) (pa_cons (pv 0) (pa_cons (pv 1) (pa_cons (pv 4) pa_nil)))))) (pss_one (ps_set (i := 0) sc_printed.nd rfl (Or.inl rfl) (pe_cal (cal_turned T) hr (by decide) (by rfl) (pa_cons (pv 0) (pa_cons (pv 1) (pa_cons (pe_un un_neg pe_int) pa_nil))))))))))
    (pss_one (ps_ret (pv 5)))))
theorem run_printed {K : PySem.W.Frag} (c : Cc) (ds : List PyData) (d : PyData) (ha : c.a = none) (h : R_printed ds d) : Rn c (t_printed K) (entry N_printed ds) m0 (fun _ _ => d = .none) (fun d' _ => d' = d) := by
  obtain ⟨cols, size, turn, stuck, n, rfl, hs, hl0, hl, hn, rfl⟩ := h
  refine r_seq (r_asgN (n_lst a_nil (by decide)) ?_)
  refine r_seq (r_forR (a_cons (e_var rfl) a_nil) (by omega) (by omega) (fun i => [.val (dI (colsAt size turn stuck cols i)), .val (.int size), .val (.int (n : Int)), .val (.int turn), .val (.int stuck), .own (nI ((List.range i).map fun t => signedM ((colsAt size turn stuck cols t).getD 0 0) size)), .no]) (fun _ => m0) (fun _ => True)
    ⟨.inr rfl, .inr rfl, .inr rfl, .inr rfl, .inr rfl, .inr rfl, .inl rfl, trivial⟩ rfl trivial (fun B i hi _ => ?_) (fun _ => ?_))
  · have hc : (colsAt size turn stuck cols i).length = cols.length := colsAt_len _ _ _ _ _
    refine r_seq (r_app rfl (e_call (a_cons (e_ixI (e_var rfl).q e_int (by decide) (by rw [hc]; omega)) (a_cons (e_var rfl) a_nil)) ⟨_, size, rfl, rfl⟩) (by rw [List.length_map, List.length_map, List.length_range]; omega) ?_)
    have key : nI ((List.range i).map fun t => signedM ((colsAt size turn stuck cols t).getD 0 0) size) ++ [.int (signedM ((colsAt size turn stuck cols i).getD 0 0) size)] = nI ((List.range (i + 1)).map fun t => signedM ((colsAt size turn stuck cols t).getD 0 0) size) := nI_range_succ _ i
    refine r_if (b_test (e_eqI (e_var rfl) (e_var rfl))) (fun hb => ?_) (fun hb => ?_)
    · refine r_asg (e_call (a_cons (e_var rfl) (a_cons (e_var rfl) (a_cons (e_var rfl) a_nil))) ⟨_, size, stuck, rfl, hs, by rw [hc]; exact hl, rfl⟩) ⟨⟨.inr ?_, .inr rfl, .inr rfl, .inr rfl, .inr rfl, .inr (congrArg SD.own key), .inl rfl, trivial⟩, rfl, trivial⟩
      show SD.val (dI (turnedM _ size stuck)) = SD.val (dI (turnedM _ size (if (i : Int) = turn then stuck else -1)))
      rw [if_pos (of_decide_eq_true hb)]
    · refine r_asg (e_call (a_cons (e_var rfl) (a_cons (e_var rfl) (a_cons (e_neg e_int) a_nil))) ⟨_, size, -1, rfl, hs, by rw [hc]; exact hl, rfl⟩) ⟨⟨.inr ?_, .inr rfl, .inr rfl, .inr rfl, .inr rfl, .inr (congrArg SD.own key), .inl rfl, trivial⟩, rfl, trivial⟩
      show SD.val (dI (turnedM _ size (-1))) = SD.val (dI (turnedM _ size (if (i : Int) = turn then stuck else -1)))
      rw [if_neg (of_decide_eq_false hb)]
  · refine r_retO rfl ?_
    rw [Int.toNat_natCast] <;> rfl
theorem cal_printed {P : Program} {w : World} {K : PySem.W.Frag} {mg : Str → Option Value} {base : Heap} {C CR : Addr} (T : Tx K mg C CR) : CalX P w K mg base CX0 2 "printed" (spD R_printed) :=
  cal_of T.d_printed sc_printed bi_printed (spD_len len_printed) (d_printed T) (pure_of run_printed)

end CE
namespace CE
open PySem PySem.Spec PyProof.Rows L2
open Evl (Ex rLenS rListS sz_of sz_lt)

/-! ### differences, in plain Lean -/
theorem diffs_zip : ∀ l : List Int, (l.dropLast.zip l.tail).map (fun p => p.2 - p.1) = Vbcead.differencesOnce l
  | [] => rfl
  | [_] => rfl
  | a :: b :: l => by
    have ih := diffs_zip (b :: l)
    show (b - a) :: ((b :: l).dropLast.zip l).map (fun p => p.2 - p.1) = (b - a) :: Vbcead.differencesOnce (b :: l)
    rw [← ih] <;> rfl
theorem diffOnce_len : ∀ l : List Int, (Vbcead.differencesOnce l).length = l.length - 1
  | [] => rfl
  | [_] => rfl
  | a :: b :: l => by
    have ih := diffOnce_len (b :: l)
    show (Vbcead.differencesOnce (b :: l)).length + 1 = l.length + 1 + 1 - 1
    rw [ih, List.length_cons]
    omega
theorem diffs_succ : ∀ (k : Nat) (l : List Int), Vbcead.differences (k + 1) l = Vbcead.differencesOnce (Vbcead.differences k l)
  | 0, _ => rfl
  | k + 1, l => by
    show Vbcead.differences (k + 1) (Vbcead.differencesOnce l) = Vbcead.differencesOnce (Vbcead.differences k (Vbcead.differencesOnce l))
    exact diffs_succ k _
theorem diffs_len : ∀ (k : Nat) (l : List Int), (Vbcead.differences k l).length = l.length - k
  | 0, _ => rfl
  | k + 1, l => by
    rw [diffs_succ, diffOnce_len, diffs_len k l]
    omega
theorem diffs_min (k : Nat) (l : List Int) : Vbcead.differences (min k l.length) l = Vbcead.differences k l := by
  by_cases h : k ≤ l.length
  · rw [Nat.min_eq_left h]
  · rw [Nat.min_eq_right (by omega)]
    have e1 : (Vbcead.differences l.length l).length = 0 := by rw [diffs_len]; omega
    have e2 : (Vbcead.differences k l).length = 0 := by rw [diffs_len]; omega
    rw [List.length_eq_zero_iff.mp e1, List.length_eq_zero_iff.mp e2]
theorem filter_nil_all (l : List Int) : decide (l.filter (fun d => !decide (d = 0)) = []) = Vbcead.isZero l := by
  unfold Vbcead.isZero
  rw [Bool.eq_iff_iff, decide_eq_true_eq, List.filter_eq_nil_iff, List.all_eq_true]
  constructor
  · intro h x hx
    have := h x hx
    simpa using this
  · intro h x hx
    have := h x hx
    simpa using this
theorem clean_len (l : List Int) {k : Nat} (h : l.length ≤ k) : Vbcead.clean k l = true := by
  have e : (Vbcead.differences k l).length = 0 := by rw [diffs_len]; omega
  unfold Vbcead.clean
  rw [List.length_eq_zero_iff.mp e] <;> rfl
theorem degree_eq {l : List Int} {k : Nat} (h1 : ∀ j, j < k → Vbcead.clean j l = false) (h2 : Vbcead.clean k l = true) : Vbcead.degree l = k := by
  unfold Vbcead.degree
  have hk : k < l.length + 1 := by
    rcases Nat.lt_or_ge k (l.length + 1) with h | h
    · exact h
    · have := h1 l.length (by omega)
      rw [clean_len l (Nat.le_refl _)] at this
      cases this
  have e : (List.range (l.length + 1)).find? (fun k => Vbcead.clean k l) = some k := by
    rw [List.find?_range_eq_some]
    refine ⟨h2, List.mem_range.mpr hk, fun j hj => ?_⟩
    rw [h1 j hj] <;> rfl
  rw [e] <;> rfl
theorem valueAt_take {d : List Int} {x : Int} {i : Nat} {z : Int} (h : d[i]? = some z) : Vbcead.valueAt (d.take (i + 1)) x = Vbcead.valueAt (d.take i) x + z * Vbcead.choose x i := by
  have hi : i < d.length := (List.getElem?_eq_some_iff.mp h).1
  have e : d.take (i + 1) = d.take i ++ [z] := by rw [List.take_succ, h] <;> rfl
  unfold Vbcead.valueAt
  rw [e, List.zipIdx_append, List.map_append, List.sum_append, List.length_take, Nat.min_eq_left (by omega), Nat.zero_add]
  show _ + (z * Vbcead.choose x i + 0) = _
  rw [Int.add_zero]
theorem ediv_natAbs_le (a : Int) {b : Int} (hb : 0 < b) : (a / b).natAbs ≤ a.natAbs := by
  have h : (a / b).natAbs = (a / b).natAbs := rfl
  rcases Int.le_total 0 a with h0 | h0
  · have h1 := Int.ediv_nonneg h0 (Int.le_of_lt hb)
    have h2 : a / b ≤ a := Int.ediv_le_self b h0
    omega
  · have h1 : a ≤ a / b := by
      rw [Int.le_ediv_iff_mul_le hb]
      have : a * b ≤ a * 1 := Int.mul_le_mul_of_nonpos_left h0 (by omega)
      omega
    have h2 : a / b ≤ 0 := by
      have := Int.ediv_le_ediv hb h0
      rw [Int.zero_ediv] at this
      exact this
    omega
theorem choose_lt {x : Int} (hx : x.natAbs ≤ 1000000) : ∀ j : Nat, j ≤ 1000 → (Vbcead.choose x j).natAbs < 2 ^ (21 * j + 1)
  | 0, _ => by show (1 : Int).natAbs < 2 ^ 1; decide
  | j + 1, hj => by
    have ih := choose_lt hx j (by omega)
    have h1 := ediv_natAbs_le (Vbcead.choose x j * (x - (j : Int))) (show (0 : Int) < (j : Int) + 1 by omega)
    have h2 : (x - (j : Int)).natAbs < 2 ^ 21 := by
      have : (2 : Nat) ^ 21 = 2097152 := by decide
      omega
    have h3 : (Vbcead.choose x j * (x - (j : Int))).natAbs < 2 ^ (21 * (j + 1) + 1) := by
      rw [Int.natAbs_mul, show 21 * (j + 1) + 1 = (21 * j + 1) + 21 by omega, Nat.pow_add]
      exact Nat.mul_lt_mul'' ih h2
    exact Nat.lt_of_le_of_lt h1 h3

/-! #### differences -/
def R_differences (ds : List PyData) (d : PyData) : Prop := ∃ (l : List Int) (k : Nat), ds = [dI l, .int (k : Int)] ∧ l.length ≤ 1000 ∧ d = dI (Vbcead.differences k l)
theorem len_differences : ∀ ds d, R_differences ds d → ds.length = 2 := fun _ _ ⟨_, _, h, _⟩ => by rw [h] <;> rfl
abbrev s_differences : Stmt := top 10
abbrev N_differences : List Str := ["lines", "k", "found", "turn", "one", "other"]
theorem sc_differences : FnScope N_differences ["lines", "k"] (defScope s_differences) := C8.fnScope_by (by decide +kernel)
theorem bi_differences : BindsAt "differences" s_differences ["lines", "k"] := fun _ _ _ _ _ _ us hl => match us, hl with | [_, _], _ => rfl
def t_differences (K : PySem.W.Frag) : TS :=
  (tSeq (tAsg (tCB (rListS K) (tCons (tVar 0) tNil)) (gName 2))
    (tSeq (tFor (iRng1 (tCons (tCB rMin2 (tCons (tVar 1) (tCons (tCB (rLenS K) (tCons (tVar 0) tNil)) tNil))) tNil)) (gName 3) (tAsg (tLc (iZip K (tCons (tSl (rSlL K) (tVar 2) tNoPart (tPart (tUn (rU fun i => .int (-i)) (tC (.int 1))))) (tCons (tSl (rSlL K) (tVar 2) (tPart (tC (.int 1))) tNoPart) tNil))) (gTup K 2 (gCons (gName 4) (gCons (gName 5) gNil))) tYes (tOp (rI0 fun i j => .int (i - j)) (tVar 5) (tVar 4)) [4, 5]) (gName 2)))
    (tRet (tVar 2))))
theorem d_differences {P : Program} {w : World} {K : PySem.W.Frag} {mg : Str → Option Value} {base : Heap} {C CR : Addr} (T : Tx K mg C CR) (f : Addr) (cdv : Value) (A : Around) (outer : List Env) (s : Shared) (H : Hp) (E : XK) (hr : Room 0 (A.deeper (envOfC "differences" (defScope s_differences) s.heap.objs.size f cdv))) :
    PSs (cxOf CX0 P w K mg base N_differences "differences" (defScope s_differences) f cdv A outer s H E).nox (defBody s_differences) (t_differences K) :=
  (pss_cons (ps_set (i := 2) sc_differences.nd rfl (Or.inl rfl) (pe_callTy call_list_of (by rfl) T.b_list PyProof.Rows.boot_list (pa_cons (pv 0) pa_nil)))
    (pss_cons (ps_for PassesOwn.never rfl (pi_range1 (by rfl) T.b_range (pa_cons (pe_callB (call_min2 rfl) (by rfl) T.b_min PyProof.Rows.boot_min (pa_cons (pv 1) (pa_cons (pe_callB call_len_seq (by rfl) T.b_len PySem.boot_len (pa_cons (pv 0) pa_nil)) pa_nil))) pa_nil)) (pg_name (i := 3) sc_differences.nd rfl (Or.inl rfl)) (pss_one (ps_setLc (i := 2) (own := [("one", 4), ("other", 5)]) rfl sc_differences.nd rfl rfl (sw_true rfl rfl rfl (by decide +kernel)) (pi_zip (by rfl) T.b_zip (pa_cons (pe_slice sl_list (pv 2) po_none (po_some (pe_un un_neg pe_int))) (pa_cons (pe_slice sl_list (pv 2) (po_some pe_int) po_none) pa_nil))) (blkOk_by (own := [("one", 4), ("other", 5)]) (N := N_differences) (sc := defScope s_differences) (by decide +kernel)) (fun _ _ _ _ _ => (pg_tup rfl (pgs_cons (pg_name (i := 4) sc_differences.nd rfl (Or.inl rfl)) (pgs_cons (pg_name (i := 5) sc_differences.nd rfl (Or.inl rfl)) pgs_nil)))) (fun _ _ _ _ _ => pts_nil) (fun _ _ _ _ _ => (pe_op op_sub (pv 5) (pv 4))))))
    (pss_one (ps_ret (pv 2)))))
theorem run_differences {K : PySem.W.Frag} (c : Cc) (ds : List PyData) (d : PyData) (ha : c.a = none) (h : R_differences ds d) : Rn c (t_differences K) (entry N_differences ds) m0 (fun _ _ => d = .none) (fun d' _ => d' = d) := by
  obtain ⟨l, k, rfl, hl, rfl⟩ := h
  refine r_seq (r_asg (n_list (e_var rfl).q).s ?_)
  refine r_seq (r_forR (a_cons (e_min2 (e_var rfl) (e_lenI (e_var rfl).q)) a_nil) (by omega) (by omega) (fun i => [.val (dI l), .val (.int (k : Int)), .val (dI (Vbcead.differences i l)), .no, .no, .no]) (fun _ => m0) (fun _ => True)
    ⟨.inr rfl, .inr rfl, .inr rfl, .inl rfl, .inl rfl, .inl rfl, trivial⟩ rfl trivial (fun B i hi _ => ?_) (fun _ => ?_))
  · have hd := diffs_len i l
    refine r_asg ((n_lcZ0 (v := fun a b => b - a) ((n_sliceI (e_var rfl).q o_none (o_some (e_neg e_int))).q.is (by rw [cutI_init])) ((n_sliceI (e_var rfl).q (o_some e_int) o_none).q.is (by rw [cutI_tail])) (by rw [List.length_dropLast]; omega) (by decide) (by decide) (fun p _ => e_I0 (e_var rfl) (e_var rfl))).s)
      ⟨⟨.inr rfl, .inr rfl, .inr ?_, .inl rfl, .inl rfl, .inl rfl, trivial⟩, rfl, trivial⟩
    rw [diffs_zip, ← diffs_succ]
  · refine r_ret (e_var rfl) ?_
    have e : (min (k : Int) (l.length : Int)).toNat = min k l.length := by omega
    rw [e, diffs_min]
theorem cal_differences {P : Program} {w : World} {K : PySem.W.Frag} {mg : Str → Option Value} {base : Heap} {C CR : Addr} (T : Tx K mg C CR) : CalX P w K mg base CX0 1 "differences" (spD R_differences) :=
  cal_of T.d_differences sc_differences bi_differences (spD_len len_differences) (d_differences T) (pure_of run_differences)

/-! #### is_below -/
def R_is_below (ds : List PyData) (d : PyData) : Prop := ∃ (l : List Int) (k : Nat), ds = [dI l, .int (k : Int)] ∧ l.length ≤ 1000 ∧ d = .bool (Vbcead.clean k l)
theorem len_is_below : ∀ ds d, R_is_below ds d → ds.length = 2 := fun _ _ ⟨_, _, h, _⟩ => by rw [h] <;> rfl
abbrev s_is_below : Stmt := top 11
abbrev N_is_below : List Str := ["lines", "k", "one"]
theorem sc_is_below : FnScope N_is_below ["lines", "k"] (defScope s_is_below) := C8.fnScope_by (by decide +kernel)
theorem bi_is_below : BindsAt "is_below" s_is_below ["lines", "k"] := fun _ _ _ _ _ _ us hl => match us, hl with | [_, _], _ => rfl
def t_is_below (K : PySem.W.Frag) : TS :=
  (tRet (tOp (rEqD K) (tLc (iList K (tCall (spD R_differences) [] E0 (tCons (tVar 0) (tCons (tVar 1) tNil)))) (gName 2) (tTest (tOp rNe (tVar 2) (tC (.int 0)))) (tVar 2) [2]) (tLst tNil)))
theorem d_is_below {P : Program} {w : World} {K : PySem.W.Frag} {mg : Str → Option Value} {base : Heap} {C CR : Addr} (T : Tx K mg C CR) (f : Addr) (cdv : Value) (A : Around) (outer : List Env) (s : Shared) (H : Hp) (E : XK) (hr : Room 1 (A.deeper (envOfC "is_below" (defScope s_is_below) s.heap.objs.size f cdv))) :
    PSs (cxOf CX0 P w K mg base N_is_below "is_below" (defScope s_is_below) f cdv A outer s H E).nox (defBody s_is_below) (t_is_below K) :=
  (pss_one (ps_ret (pe_cmpR (op_eqD hr.units) (pe_lc (own := [("one", 2)]) rfl sc_is_below.nd (pi_list (pe_cal (cal_differences T) hr (by decide) (by rfl) (pa_cons (pv 0) (pa_cons (pv 1) pa_nil)))) (blkOk_by (own := [("one", 2)]) (N := N_is_below) (sc := defScope s_is_below) (by decide +kernel)) (fun _ _ _ _ _ => (pg_name (i := 2) sc_is_below.nd rfl (Or.inl rfl))) (fun _ _ _ _ _ => (pts_one (pt_cmpR op_ne (pv 2) pe_int (nomark _)))) (fun _ _ _ _ _ => (pv 2))) (pe_lst pa_nil) (nomark _))))
theorem run_is_below {K : PySem.W.Frag} (c : Cc) (ds : List PyData) (d : PyData) (ha : c.a = none) (h : R_is_below ds d) : Rn c (t_is_below K) (entry N_is_below ds) m0 (fun _ _ => d = .none) (fun d' _ => d' = d) := by
  obtain ⟨l, k, rfl, hl, rfl⟩ := h
  have hd := diffs_len k l
  refine r_ret (e_eqL (k := []) ((n_lcLI (f := fun d => !decide (d = 0)) (v := PyData.int) ((e_call (a_cons (e_var rfl) (a_cons (e_var rfl) a_nil)) ⟨l, k, rfl, hl, rfl⟩).q) (by omega) (by decide) (fun d _ => b_test (e_neI (e_var rfl) e_int)) (fun d _ _ => e_var rfl)).s) (n_lst a_nil (by decide)).s) ?_
  rw [filter_nil_all] <;> rfl
theorem cal_is_below {P : Program} {w : World} {K : PySem.W.Frag} {mg : Str → Option Value} {base : Heap} {C CR : Addr} (T : Tx K mg C CR) : CalX P w K mg base CX0 2 "is_below" (spD R_is_below) :=
  cal_of T.d_is_below sc_is_below bi_is_below (spD_len len_is_below) (d_is_below T) (pure_of run_is_below)

/-! #### start_of -/
def R_start_of (ds : List PyData) (d : PyData) : Prop := ∃ (l : List Int) (k : Nat), ds = [dI l, .int (k : Int)] ∧ l.length ≤ 1000 ∧ k ≤ l.length ∧ d = dI (Vbcead.leading k l)
theorem len_start_of : ∀ ds d, R_start_of ds d → ds.length = 2 := fun _ _ ⟨_, _, h, _⟩ => by rw [h] <;> rfl
abbrev s_start_of : Stmt := top 12
abbrev N_start_of : List Str := ["lines", "k", "turn"]
theorem sc_start_of : FnScope N_start_of ["lines", "k"] (defScope s_start_of) := C8.fnScope_by (by decide +kernel)
theorem bi_start_of : BindsAt "start_of" s_start_of ["lines", "k"] := fun _ _ _ _ _ _ us hl => match us, hl with | [_, _], _ => rfl
def t_start_of (K : PySem.W.Frag) : TS :=
  (tRet (tLc (iRng1 (tCons (tVar 1) tNil)) (gName 2) tYes (tOp (rIxL K) (tCall (spD R_differences) [] E0 (tCons (tVar 0) (tCons (tVar 2) tNil))) (tC (.int 0))) [2]))
theorem d_start_of {P : Program} {w : World} {K : PySem.W.Frag} {mg : Str → Option Value} {base : Heap} {C CR : Addr} (T : Tx K mg C CR) (f : Addr) (cdv : Value) (A : Around) (outer : List Env) (s : Shared) (H : Hp) (E : XK) (hr : Room 1 (A.deeper (envOfC "start_of" (defScope s_start_of) s.heap.objs.size f cdv))) :
    PSs (cxOf CX0 P w K mg base N_start_of "start_of" (defScope s_start_of) f cdv A outer s H E).nox (defBody s_start_of) (t_start_of K) :=
  (pss_one (ps_ret (pe_lc (own := [("turn", 2)]) rfl sc_start_of.nd (pi_range1 (by rfl) T.b_range (pa_cons (pv 1) pa_nil)) (blkOk_by (own := [("turn", 2)]) (N := N_start_of) (sc := defScope s_start_of) (by decide +kernel)) (fun _ _ _ _ _ => (pg_name (i := 2) sc_start_of.nd rfl (Or.inl rfl))) (fun _ _ _ _ _ => pts_nil) (fun _ _ _ _ _ => (pe_ix ix_list (pe_cal (cal_differences T) hr (by decide) (by rfl) (pa_cons (pv 0) (pa_cons (pv 2) pa_nil))) pe_int (fun _ _ => rfl))))))
theorem run_start_of {K : PySem.W.Frag} (c : Cc) (ds : List PyData) (d : PyData) (ha : c.a = none) (h : R_start_of ds d) : Rn c (t_start_of K) (entry N_start_of ds) m0 (fun _ _ => d = .none) (fun d' _ => d' = d) := by
  obtain ⟨l, k, rfl, hl, hk, rfl⟩ := h
  refine r_ret ((n_lcR0 (v := fun i => .int ((Vbcead.differences i l).headD 0)) (a_cons (e_var rfl) a_nil) (by omega) (by omega) (by decide) (fun i hi => ?_)).s) ?_
  · have hd := diffs_len i l
    refine (e_ixI ((e_call (a_cons (e_var rfl) (a_cons (e_var rfl) a_nil)) ⟨l, i, rfl, hl, rfl⟩).q) e_int (by decide) (by omega)).is ?_
    cases e : Vbcead.differences i l with
    | nil => rfl
    | cons a r => rfl
  · rw [Int.toNat_natCast]
    show PyData.list _ = PyData.list (List.map PyData.int _)
    unfold Vbcead.leading
    rw [List.map_map] <;> rfl
theorem cal_start_of {P : Program} {w : World} {K : PySem.W.Frag} {mg : Str → Option Value} {base : Heap} {C CR : Addr} (T : Tx K mg C CR) : CalX P w K mg base CX0 2 "start_of" (spD R_start_of) :=
  cal_of T.d_start_of sc_start_of bi_start_of (spD_len len_start_of) (d_start_of T) (pure_of run_start_of)

/-! #### degree_of -/
def R_degree_of (ds : List PyData) (d : PyData) : Prop := ∃ (l : List Int), ds = [dI l] ∧ l.length ≤ 1000 ∧ d = .int (Vbcead.degree l : Int)
theorem len_degree_of : ∀ ds d, R_degree_of ds d → ds.length = 1 := fun _ _ ⟨_, h, _⟩ => by rw [h] <;> rfl
abbrev s_degree_of : Stmt := top 13
abbrev N_degree_of : List Str := ["lines", "k"]
theorem sc_degree_of : FnScope N_degree_of ["lines"] (defScope s_degree_of) := C8.fnScope_by (by decide +kernel)
theorem bi_degree_of : BindsAt "degree_of" s_degree_of ["lines"] := fun _ _ _ _ _ _ us hl => match us, hl with | [_], _ => rfl
def t_degree_of (K : PySem.W.Frag) : TS :=
  (tSeq (tAsg (tC (.int 0)) (gName 1))
    (tSeq (tWhile (tNot (tB (tCall (spD R_is_below) [] E0 (tCons (tVar 0) (tCons (tVar 1) tNil))))) (tAug 1 (tC (.int 1)) (ipI fun i j => i + j)))
    (tRet (tVar 1))))
theorem d_degree_of {P : Program} {w : World} {K : PySem.W.Frag} {mg : Str → Option Value} {base : Heap} {C CR : Addr} (T : Tx K mg C CR) (f : Addr) (cdv : Value) (A : Around) (outer : List Env) (s : Shared) (H : Hp) (E : XK) (hr : Room 2 (A.deeper (envOfC "degree_of" (defScope s_degree_of) s.heap.objs.size f cdv))) :
    PSs (cxOf CX0 P w K mg base N_degree_of "degree_of" (defScope s_degree_of) f cdv A outer s H E).nox (defBody s_degree_of) (t_degree_of K) :=
  (pss_cons (ps_set (i := 1) sc_degree_of.nd rfl (Or.inl rfl) pe_int)
    (pss_cons (ps_while PassesOwn.never (pt_not (pt_val (pe_cal (cal_is_below T) hr (by decide) (by rfl) (pa_cons (pv 0) (pa_cons (pv 1) pa_nil))))) (pss_one (ps_aug (i := 1) sc_degree_of.nd rfl (Or.inl rfl) pe_int ip_add)))
    (pss_one (ps_ret (pv 1)))))
theorem run_degree_of {K : PySem.W.Frag} (c : Cc) (ds : List PyData) (d : PyData) (ha : c.a = none) (h : R_degree_of ds d) : Rn c (t_degree_of K) (entry N_degree_of ds) m0 (fun _ _ => d = .none) (fun d' _ => d' = d) := by
  obtain ⟨l, rfl, hl, rfl⟩ := h
  refine r_seq (r_asg e_int ?_)
  refine r_seq (r_while (β := { k : Nat // ∀ j, j < k → Vbcead.clean j l = false }) (fun x => [.val (dI l), .val (.int (x.1 : Int))]) (fun _ => m0) (fun x => l.length + 1 - x.1) ⟨0, fun j hj => absurd hj (Nat.not_lt_zero _)⟩ ⟨.inr rfl, .inr rfl, trivial⟩ rfl (fun x => !Vbcead.clean x.1 l)
    (fun x => b_not (b_B (e_call (a_cons (e_var rfl) (a_cons (e_var rfl) a_nil)) ⟨l, x.1, rfl, hl, rfl⟩))) (fun x hb => ?_) (fun x hb => ?_))
  · have hc : Vbcead.clean x.1 l = false := by simpa using hb
    have hx : x.1 < l.length := by
      rcases Nat.lt_or_ge x.1 l.length with h | h
      · exact h
      · rw [clean_len l h] at hc; cases hc
    refine r_aug rfl e_int ⟨⟨x.1 + 1, fun j hj => ?_⟩, by show l.length + 1 - (x.1 + 1) < l.length + 1 - x.1; omega, ⟨.inr rfl, .inr rfl, trivial⟩, rfl⟩
    rcases Nat.lt_or_ge j x.1 with h | h
    · exact x.2 j h
    · have : j = x.1 := by omega
      rw [this]
      exact hc
  · have hc : Vbcead.clean x.1 l = true := by simpa using hb
    refine r_ret (e_var rfl) ?_
    rw [degree_eq x.2 hc]
theorem cal_degree_of {P : Program} {w : World} {K : PySem.W.Frag} {mg : Str → Option Value} {base : Heap} {C CR : Addr} (T : Tx K mg C CR) : CalX P w K mg base CX0 3 "degree_of" (spD R_degree_of) :=
  cal_of T.d_degree_of sc_degree_of bi_degree_of (spD_len len_degree_of) (d_degree_of T) (pure_of run_degree_of)

/-! #### value_by -/
def R_value_by (ds : List PyData) (d : PyData) : Prop := ∃ (l : List Int) (x : Int), ds = [dI l, .int x] ∧ l.length ≤ 60 ∧ (∀ a ∈ l, a.natAbs < 2 ^ 200) ∧ x.natAbs ≤ 1000000 ∧ d = .int (Vbcead.valueAt l x)
theorem len_value_by : ∀ ds d, R_value_by ds d → ds.length = 2 := fun _ _ ⟨_, _, h, _⟩ => by rw [h] <;> rfl
theorem nI_get {l : List Int} {i : Nat} {d : PyData} (h : (nI l)[i]? = some d) : ∃ z, l[i]? = some z ∧ d = .int z := by
  have h' : (List.map PyData.int l)[i]? = some d := h
  rw [List.getElem?_map] at h'
  cases e : l[i]? with
  | none => rw [e] at h'; cases h'
  | some z =>
    rw [e] at h'
    exact ⟨z, rfl, (Option.some.inj h').symm⟩
abbrev s_value_by : Stmt := top 14
abbrev N_value_by : List Str := ["start", "x", "found", "choose", "j", "one"]
theorem sc_value_by : FnScope N_value_by ["start", "x"] (defScope s_value_by) := C8.fnScope_by (by decide +kernel)
theorem bi_value_by : BindsAt "value_by" s_value_by ["start", "x"] := fun _ _ _ _ _ _ us hl => match us, hl with | [_, _], _ => rfl
def t_value_by (K : PySem.W.Frag) : TS :=
  (tSeq (tAsg (tC (.int 0)) (gName 2))
    (tSeq (tAsg (tC (.int 1)) (gName 3))
    (tSeq (tFor (iEnum K (tCons (tVar 0) tNil)) (gTup K 2 (gCons (gName 4) (gCons (gName 5) gNil))) (tSeq (tAug 2 (tOp (rI CMulW fun i j => .int (i * j)) (tVar 5) (tVar 3)) (ipI fun i j => i + j))
    (tAsg (tOp (rI CDiv fun i j => .int (i / j)) (tOp (rI CMul fun i j => .int (i * j)) (tVar 3) (tOp (rI0 fun i j => .int (i - j)) (tVar 1) (tVar 4))) (tOp (rI0 fun i j => .int (i + j)) (tVar 4) (tC (.int 1)))) (gName 3))))
    (tRet (tVar 2)))))
theorem d_value_by {P : Program} {w : World} {K : PySem.W.Frag} {mg : Str → Option Value} {base : Heap} {C CR : Addr} (T : Tx K mg C CR) (f : Addr) (cdv : Value) (A : Around) (outer : List Env) (s : Shared) (H : Hp) (E : XK) (hr : Room 0 (A.deeper (envOfC "value_by" (defScope s_value_by) s.heap.objs.size f cdv))) :
    PSs (cxOf CX0 P w K mg base N_value_by "value_by" (defScope s_value_by) f cdv A outer s H E).nox (defBody s_value_by) (t_value_by K) :=
  (pss_cons (ps_set (i := 2) sc_value_by.nd rfl (Or.inl rfl) pe_int)
    (pss_cons (ps_set (i := 3) sc_value_by.nd rfl (Or.inl rfl) pe_int)
    (pss_cons (ps_for PassesOwn.never rfl (pi_enum (by rfl) T.b_enumerate (pa_cons (pv 0) pa_nil)) (pg_tup rfl (pgs_cons (pg_name (i := 4) sc_value_by.nd rfl (Or.inl rfl)) (pgs_cons (pg_name (i := 5) sc_value_by.nd rfl (Or.inl rfl)) pgs_nil))) (pss_cons (ps_aug (i := 2) sc_value_by.nd rfl (Or.inl rfl) (pe_op op_mulW (pv 5) (pv 3)) ip_add)
    (pss_one (ps_set (i := 3) sc_value_by.nd rfl (Or.inl rfl) (pe_op op_fdiv (pe_op op_mul (pv 3) (pe_op op_sub (pv 1) (pv 4))) (pe_op op_add (pv 4) pe_int))))))
    (pss_one (ps_ret (pv 2))))))
theorem run_value_by {K : PySem.W.Frag} (c : Cc) (ds : List PyData) (d : PyData) (ha : c.a = none) (h : R_value_by ds d) : Rn c (t_value_by K) (entry N_value_by ds) m0 (fun _ _ => d = .none) (fun d' _ => d' = d) := by
  obtain ⟨l, x, rfl, hl, hb, hx, rfl⟩ := h
  refine r_seq (r_asg e_int ?_)
  refine r_seq (r_asg e_int ?_)
  refine r_seq (r_forE (e_var rfl) (fun i => [.val (dI l), .val (.int x), .val (.int (Vbcead.valueAt (l.take i) x)), .val (.int (Vbcead.choose x i)), .no, .no]) (fun _ => m0) (fun _ => True)
    ⟨.inr rfl, .inr rfl, .inr rfl, .inr rfl, .inl rfl, .inl rfl, trivial⟩ rfl trivial (fun B i d hi _ => ?_) (fun _ => ?_))
  · obtain ⟨z, hz, rfl⟩ := nI_get hi
    have hil : i < l.length := (List.getElem?_eq_some_iff.mp hz).1
    have hc := choose_lt hx i (by omega)
    refine r_seq (r_aug rfl (e_I (e_var rfl) (e_var rfl) (wide_mul (hb z (List.mem_of_getElem? hz)) hc (by decide) (by omega) (by omega))) ?_)
    refine r_asg (e_I (e_I (e_var rfl) (e_I0 (e_var rfl) (e_var rfl)) (.inr ⟨by omega, by omega⟩)) (e_I0 (e_var rfl) e_int) ⟨by omega, by omega⟩) ⟨⟨.inr rfl, .inr rfl, .inr ?_, .inr rfl, .inl rfl, .inl rfl, trivial⟩, rfl, trivial⟩
    rw [valueAt_take hz]
  · refine r_ret (e_var rfl) ?_
    rw [List.length_map, List.take_length]
theorem cal_value_by {P : Program} {w : World} {K : PySem.W.Frag} {mg : Str → Option Value} {base : Heap} {C CR : Addr} (T : Tx K mg C CR) : CalX P w K mg base CX0 1 "value_by" (spD R_value_by) :=
  cal_of T.d_value_by sc_value_by bi_value_by (spD_len len_value_by) (d_value_by T) (pure_of run_value_by)

/-! #### choices -/
def chStep (l : List Int) : List Int := ((l ++ [0]).zip ((0 : Int) :: l)).map fun (p : Int × Int) => p.1 - p.2
def chM (k : Nat) : List Int := iter chStep k [1]
theorem chStep_len (l : List Int) : (chStep l).length = l.length + 1 := by
  unfold chStep
  rw [List.length_map, List.length_zip, List.length_append, List.length_cons]
  show min (l.length + 1) (l.length + 1) = _
  omega
theorem chM_len : ∀ k, (chM k).length = k + 1
  | 0 => rfl
  | k + 1 => by
    show (chStep (chM k)).length = _
    rw [chStep_len, chM_len k]
def R_choices (ds : List PyData) (d : PyData) : Prop := ∃ (k : Nat), ds = [.int (k : Int)] ∧ k ≤ 1000 ∧ d = dI (chM k)
theorem len_choices : ∀ ds d, R_choices ds d → ds.length = 1 := fun _ _ ⟨_, h, _⟩ => by rw [h] <;> rfl
theorem nI_append (a b : List Int) : nI a ++ nI b = nI (a ++ b) := by
  show List.map _ _ ++ List.map _ _ = List.map _ _
  rw [List.map_append]
abbrev s_choices : Stmt := top 15
abbrev N_choices : List Str := ["k", "found", "turn", "one", "other"]
theorem sc_choices : FnScope N_choices ["k"] (defScope s_choices) := C8.fnScope_by (by decide +kernel)
theorem bi_choices : BindsAt "choices" s_choices ["k"] := fun _ _ _ _ _ _ us hl => match us, hl with | [_], _ => rfl
def t_choices (K : PySem.W.Frag) : TS :=
  (tSeq (tAsg (tLst (tCons (tC (.int 1)) tNil)) (gName 1))
    (tSeq (tFor (iRng1 (tCons (tVar 0) tNil)) (gName 2) (tAsg (tLc (iZip K (tCons (tOp rCat (tVar 1) (tLst (tCons (tC (.int 0)) tNil))) (tCons (tOp rCat (tLst (tCons (tC (.int 0)) tNil)) (tVar 1)) tNil))) (gTup K 2 (gCons (gName 3) (gCons (gName 4) gNil))) tYes (tOp (rI0 fun i j => .int (i - j)) (tVar 3) (tVar 4)) [3, 4]) (gName 1)))
    (tRet (tVar 1))))
theorem d_choices {P : Program} {w : World} {K : PySem.W.Frag} {mg : Str → Option Value} {base : Heap} {C CR : Addr} (T : Tx K mg C CR) (f : Addr) (cdv : Value) (A : Around) (outer : List Env) (s : Shared) (H : Hp) (E : XK) (hr : Room 0 (A.deeper (envOfC "choices" (defScope s_choices) s.heap.objs.size f cdv))) :
    PSs (cxOf CX0 P w K mg base N_choices "choices" (defScope s_choices) f cdv A outer s H E).nox (defBody s_choices) (t_choices K) :=
  (pss_cons (ps_set (i := 1) sc_choices.nd rfl (Or.inl rfl) (pe_lst (pa_cons pe_int pa_nil)))
    (pss_cons (ps_for PassesOwn.never rfl (pi_range1 (by rfl) T.b_range (pa_cons (pv 0) pa_nil)) (pg_name (i := 2) sc_choices.nd rfl (Or.inl rfl)) (pss_one (ps_setLc (i := 1) (own := [("one", 3), ("other", 4)]) rfl sc_choices.nd rfl rfl (sw_true rfl rfl rfl (by decide +kernel)) (pi_zip (by rfl) T.b_zip (pa_cons (pe_op op_cat (pv 1) (pe_lst (pa_cons pe_int pa_nil))) (pa_cons (pe_op op_cat (pe_lst (pa_cons pe_int pa_nil)) (pv 1)) pa_nil))) (blkOk_by (own := [("one", 3), ("other", 4)]) (N := N_choices) (sc := defScope s_choices) (by decide +kernel)) (fun _ _ _ _ _ => (pg_tup rfl (pgs_cons (pg_name (i := 3) sc_choices.nd rfl (Or.inl rfl)) (pgs_cons (pg_name (i := 4) sc_choices.nd rfl (Or.inl rfl)) pgs_nil)))) (fun _ _ _ _ _ => pts_nil) (fun _ _ _ _ _ => (pe_op op_sub (pv 3) (pv 4))))))
    (pss_one (ps_ret (pv 1)))))
theorem run_choices {K : PySem.W.Frag} (c : Cc) (ds : List PyData) (d : PyData) (ha : c.a = none) (h : R_choices ds d) : Rn c (t_choices K) (entry N_choices ds) m0 (fun _ _ => d = .none) (fun d' _ => d' = d) := by
  obtain ⟨k, rfl, hk, rfl⟩ := h
  refine r_seq (r_asg (n_lst (a_cons e_int a_nil) (by decide)).s ?_)
  refine r_seq (r_forR (a_cons (e_var rfl) a_nil) (by omega) (by omega) (fun i => [.val (.int (k : Int)), .val (dI (chM i)), .no, .no, .no]) (fun _ => m0) (fun _ => True)
    ⟨.inr rfl, .inr rfl, .inl rfl, .inl rfl, .inl rfl, trivial⟩ rfl trivial (fun B i hi _ => ?_) (fun _ => ?_))
  · have hc := chM_len i
    have q1 : ∀ (τ : List SD), τ[1]? = some (.val (dI (chM i))) → EvQ (c.on B) (tOp rCat (tVar 1) (tLst (tCons (tC (.int 0)) tNil))) τ m0 (nI (chM i ++ [0])) := fun τ hτ => ((n_cat (e_var hτ).q (n_lst (a_cons e_int a_nil) (by decide)).q (by rw [List.length_map]; show _ + 1 ≤ _; omega)).q).is (nI_append _ [0])
    have q2 : ∀ (τ : List SD), τ[1]? = some (.val (dI (chM i))) → EvQ (c.on B) (tOp rCat (tLst (tCons (tC (.int 0)) tNil)) (tVar 1)) τ m0 (nI (0 :: chM i)) := fun τ hτ => ((n_cat (n_lst (a_cons e_int a_nil) (by decide)).q (e_var hτ).q (by rw [List.length_map]; show 1 + _ ≤ _; omega)).q).is (nI_append [0] _)
    refine r_asg ((n_lcZ0 (v := fun a b => a - b) (q1 _ rfl) (q2 _ rfl) (by rw [List.length_append, hc]; show _ + 1 ≤ _; omega) (by decide) (by decide) (fun p _ => e_I0 (e_var rfl) (e_var rfl))).s) ⟨⟨.inr rfl, .inr rfl, .inl rfl, .inl rfl, .inl rfl, trivial⟩, rfl, trivial⟩
  · refine r_ret (e_var rfl) ?_
    rw [Int.toNat_natCast]
theorem cal_choices {P : Program} {w : World} {K : PySem.W.Frag} {mg : Str → Option Value} {base : Heap} {C CR : Addr} (T : Tx K mg C CR) : CalX P w K mg base CX0 1 "choices" (spD R_choices) :=
  cal_of T.d_choices sc_choices bi_choices (spD_len len_choices) (d_choices T) (pure_of run_choices)

/-! #### borne -/
def R_borne (ds : List PyData) (d : PyData) : Prop := ∃ (n k : Nat), ds = [.int (n : Int), .int (k : Int)] ∧ k ≤ n ∧ d = .int ((min 4 ((n - k) / 2) : Nat) : Int)
theorem len_borne : ∀ ds d, R_borne ds d → ds.length = 2 := fun _ _ ⟨_, _, h, _⟩ => by rw [h] <;> rfl
abbrev s_borne : Stmt := top 18
abbrev N_borne : List Str := ["many", "k"]
theorem sc_borne : FnScope N_borne ["many", "k"] (defScope s_borne) := C8.fnScope_by (by decide +kernel)
theorem bi_borne : BindsAt "borne" s_borne ["many", "k"] := fun _ _ _ _ _ _ us hl => match us, hl with | [_, _], _ => rfl
def t_borne (K : PySem.W.Frag) : TS :=
  (tRet (tCB rMin2 (tCons (tC (.int 4)) (tCons (tOp (rI CDiv fun i j => .int (i / j)) (tOp (rI0 fun i j => .int (i - j)) (tVar 0) (tVar 1)) (tC (.int 2))) tNil))))
theorem d_borne {P : Program} {w : World} {K : PySem.W.Frag} {mg : Str → Option Value} {base : Heap} {C CR : Addr} (T : Tx K mg C CR) (f : Addr) (cdv : Value) (A : Around) (outer : List Env) (s : Shared) (H : Hp) (E : XK) (hr : Room 0 (A.deeper (envOfC "borne" (defScope s_borne) s.heap.objs.size f cdv))) :
    PSs (cxOf CX0 P w K mg base N_borne "borne" (defScope s_borne) f cdv A outer s H E).nox (defBody s_borne) (t_borne K) :=
  (pss_one (ps_ret (pe_callB (call_min2 rfl) (by rfl) T.b_min PyProof.Rows.boot_min (pa_cons (pe_gI (by rfl) T.g_MOST_BORNE) (pa_cons (pe_op op_fdiv (pe_op op_sub (pv 0) (pv 1)) pe_int) pa_nil)))))
theorem run_borne {K : PySem.W.Frag} (c : Cc) (ds : List PyData) (d : PyData) (ha : c.a = none) (h : R_borne ds d) : Rn c (t_borne K) (entry N_borne ds) m0 (fun _ _ => d = .none) (fun d' _ => d' = d) := by
  obtain ⟨n, k, rfl, hk, rfl⟩ := h
  refine r_ret (e_min2 e_int (e_I (e_I0 (e_var rfl) (e_var rfl)) e_int ⟨by decide, by decide⟩)) ?_
  congr 1
  omega
theorem cal_borne {P : Program} {w : World} {K : PySem.W.Frag} {mg : Str → Option Value} {base : Heap} {C CR : Addr} (T : Tx K mg C CR) : CalX P w K mg base CX0 1 "borne" (spD R_borne) :=
  cal_of T.d_borne sc_borne bi_borne (spD_len len_borne) (d_borne T) (pure_of run_borne)

/-! #### product_at -/
def prodM (x : Int) (l : List Int) : Int := l.foldl (fun v i => v * (x - i)) 1
theorem prodM_take {x : Int} {l : List Int} {i : Nat} {z : Int} (h : l[i]? = some z) : prodM x (l.take (i + 1)) = prodM x (l.take i) * (x - z) := by
  have e : l.take (i + 1) = l.take i ++ [z] := by rw [List.take_succ, h] <;> rfl
  unfold prodM
  rw [e, List.foldl_append] <;> rfl
def R_product_at (ds : List PyData) (d : PyData) : Prop := ∃ (x : Int) (l : List Int), ds = [.int x, dI l] ∧ x.natAbs ≤ 1000000 ∧ (∀ i ∈ l, i.natAbs ≤ 1000000) ∧ d = .int (prodM x l)
theorem len_product_at : ∀ ds d, R_product_at ds d → ds.length = 2 := fun _ _ ⟨_, _, h, _⟩ => by rw [h] <;> rfl
abbrev s_product_at : Stmt := top 19
abbrev N_product_at : List Str := ["x", "some", "found", "i"]
theorem sc_product_at : FnScope N_product_at ["x", "some"] (defScope s_product_at) := C8.fnScope_by (by decide +kernel)
theorem bi_product_at : BindsAt "product_at" s_product_at ["x", "some"] := fun _ _ _ _ _ _ us hl => match us, hl with | [_, _], _ => rfl
def t_product_at (K : PySem.W.Frag) : TS :=
  (tSeq (tAsg (tC (.int 1)) (gName 2))
    (tSeq (tFor (iList K (tVar 1)) (gName 3) (tAsg (tOp (rI CMul fun i j => .int (i * j)) (tVar 2) (tOp (rI0 fun i j => .int (i - j)) (tVar 0) (tVar 3))) (gName 2)))
    (tRet (tVar 2))))
theorem d_product_at {P : Program} {w : World} {K : PySem.W.Frag} {mg : Str → Option Value} {base : Heap} {C CR : Addr} (T : Tx K mg C CR) (f : Addr) (cdv : Value) (A : Around) (outer : List Env) (s : Shared) (H : Hp) (E : XK) (hr : Room 0 (A.deeper (envOfC "product_at" (defScope s_product_at) s.heap.objs.size f cdv))) :
    PSs (cxOf CX0 P w K mg base N_product_at "product_at" (defScope s_product_at) f cdv A outer s H E).nox (defBody s_product_at) (t_product_at K) :=
  (pss_cons (ps_set (i := 2) sc_product_at.nd rfl (Or.inl rfl) pe_int)
    (pss_cons (ps_for PassesOwn.never rfl (pi_list (pv 1)) (pg_name (i := 3) sc_product_at.nd rfl (Or.inl rfl)) (pss_one (ps_set (i := 2) sc_product_at.nd rfl (Or.inl rfl) (pe_op op_mul (pv 2) (pe_op op_sub (pv 0) (pv 3))))))
    (pss_one (ps_ret (pv 2)))))
theorem run_product_at {K : PySem.W.Frag} (c : Cc) (ds : List PyData) (d : PyData) (ha : c.a = none) (h : R_product_at ds d) : Rn c (t_product_at K) (entry N_product_at ds) m0 (fun _ _ => d = .none) (fun d' _ => d' = d) := by
  obtain ⟨x, l, rfl, hx, hl, rfl⟩ := h
  refine r_seq (r_asg e_int ?_)
  refine r_seq (r_forL (e_var rfl) (fun i => [.val (.int x), .val (dI l), .val (.int (prodM x (l.take i))), .no]) (fun _ => m0) (fun _ => True)
    ⟨.inr rfl, .inr rfl, .inr rfl, .inl rfl, trivial⟩ rfl trivial (fun B i d hi _ => ?_) (fun _ => ?_))
  · obtain ⟨z, hz, rfl⟩ := nI_get hi
    have hz2 := hl z (List.mem_of_getElem? hz)
    refine r_asg (e_I (e_var rfl) (e_I0 (e_var rfl) (e_var rfl)) (.inr ⟨by omega, by omega⟩)) ⟨⟨.inr rfl, .inr rfl, .inr ?_, .inl rfl, trivial⟩, rfl, trivial⟩
    rw [prodM_take hz]
  · refine r_ret (e_var rfl) ?_
    rw [List.length_map, List.take_length]
theorem cal_product_at {P : Program} {w : World} {K : PySem.W.Frag} {mg : Str → Option Value} {base : Heap} {C CR : Addr} (T : Tx K mg C CR) : CalX P w K mg base CX0 1 "product_at" (spD R_product_at) :=
  cal_of T.d_product_at sc_product_at bi_product_at (spD_len len_product_at) (d_product_at T) (pure_of run_product_at)

/-! #### slip_at -/
def dueAt (pats : List Int) (e : Int) (i m : Nat) : Int := if m ≤ i ∧ i ≤ m + (pats.length - 1) then e * pats.getD (pats.length - 1 + m - i) 0 else 0
def slipE (pats found : List Int) (i : Nat) : Int := (found.getD (i - (pats.length - 1)) 0).fdiv (pats.getD (pats.length - 1 + (i - (pats.length - 1)) - i) 0)
def slipM (pats found : List Int) (i : Nat) : Int := if ((List.range found.length).all fun m => decide (found.getD m 0 = dueAt pats (slipE pats found i) i m)) = true then slipE pats found i else 0
theorem filt_first {n a : Nat} {f : Nat → Bool} (ha : a < n) (h1 : f a = true) (h2 : ∀ j, j < a → f j = false) : ((List.range n).filter f)[0]? = some a := by
  rw [← List.head?_eq_getElem?, List.head?_filter, List.find?_range_eq_some]
  refine ⟨h1, List.mem_range.mpr ha, fun j hj => ?_⟩
  rw [h2 j hj] <;> rfl
def R_slip_at (ds : List PyData) (d : PyData) : Prop := ∃ (pats found : List Int) (i : Nat), ds = [dI pats, dI found, .int (i : Int)] ∧ 0 < pats.length ∧ pats.length ≤ 1000 ∧ found.length ≤ 1000 ∧ 0 < found.length ∧ i < found.length + (pats.length - 1) ∧ (∀ a ∈ pats, a ≠ 0 ∧ a.natAbs < 1073741824) ∧ d = .int (slipM pats found i)
theorem len_slip_at : ∀ ds d, R_slip_at ds d → ds.length = 3 := fun _ _ ⟨_, _, _, h, _⟩ => by rw [h] <;> rfl
theorem getD_mem {l : List Int} {i : Nat} (h : i < l.length) : l.getD i 0 ∈ l := by
  rw [List.getD_eq_getElem?_getD, List.getElem?_eq_getElem h]
  exact List.getElem_mem h
abbrev s_slip_at : Stmt := top 16
abbrev N_slip_at : List Str := ["patterns", "found", "i", "k", "places", "m", "first", "e", "due"]
theorem sc_slip_at : FnScope N_slip_at ["patterns", "found", "i"] (defScope s_slip_at) := C8.fnScope_by (by decide +kernel)
theorem bi_slip_at : BindsAt "slip_at" s_slip_at ["patterns", "found", "i"] := fun _ _ _ _ _ _ us hl => match us, hl with | [_, _, _], _ => rfl
def t_slip_at (K : PySem.W.Frag) : TS :=
  (tSeq (tAsg (tOp (rI0 fun i j => .int (i - j)) (tCB (rLenS K) (tCons (tVar 0) tNil)) (tC (.int 1))) (gName 3))
    (tSeq (tAsg (tLc (iRng1 (tCons (tCB (rLenS K) (tCons (tVar 1) tNil)) tNil)) (gName 5) (tAnd (tTest (tOp (rI0 fun i j => .bl (decide (i ≤ j))) (tVar 5) (tVar 2))) (tTest (tOp (rI0 fun i j => .bl (decide (i ≤ j))) (tVar 2) (tOp (rI0 fun i j => .int (i + j)) (tVar 5) (tVar 3))))) (tVar 5) [5]) (gName 4))
    (tSeq (tAsg (tOp (rIxL K) (tVar 4) (tC (.int 0))) (gName 6))
    (tSeq (tAsg (tOp (rI CDivN fun i j => .int (i.fdiv j)) (tOp (rIxL K) (tVar 1) (tVar 6)) (tOp (rIxL K) (tVar 0) (tOp (rI0 fun i j => .int (i + j)) (tOp (rI0 fun i j => .int (i - j)) (tVar 3) (tVar 2)) (tVar 6)))) (gName 7))
    (tSeq (tFor (iRng1 (tCons (tCB (rLenS K) (tCons (tVar 1) tNil)) tNil)) (gName 5) (tSeq (tAsg (tC (.int 0)) (gName 8))
    (tSeq (tIfS (tAnd (tTest (tOp (rI0 fun i j => .bl (decide (i ≤ j))) (tVar 5) (tVar 2))) (tTest (tOp (rI0 fun i j => .bl (decide (i ≤ j))) (tVar 2) (tOp (rI0 fun i j => .int (i + j)) (tVar 5) (tVar 3))))) (tAsg (tOp (rI CMul fun i j => .int (i * j)) (tVar 7) (tOp (rIxL K) (tVar 0) (tOp (rI0 fun i j => .int (i + j)) (tOp (rI0 fun i j => .int (i - j)) (tVar 3) (tVar 2)) (tVar 5)))) (gName 8)) tNext)
    (tIfS (tTest (tOp rNe (tOp (rIxL K) (tVar 1) (tVar 5)) (tVar 8))) (tRet (tC (.int 0))) tNext))))
    (tRet (tVar 7)))))))
theorem d_slip_at {P : Program} {w : World} {K : PySem.W.Frag} {mg : Str → Option Value} {base : Heap} {C CR : Addr} (T : Tx K mg C CR) (f : Addr) (cdv : Value) (A : Around) (outer : List Env) (s : Shared) (H : Hp) (E : XK) (hr : Room 0 (A.deeper (envOfC "slip_at" (defScope s_slip_at) s.heap.objs.size f cdv))) :
    PSs (cxOf CX0 P w K mg base N_slip_at "slip_at" (defScope s_slip_at) f cdv A outer s H E).nox (defBody s_slip_at) (t_slip_at K) :=
  (pss_cons (ps_set (i := 3) sc_slip_at.nd rfl (Or.inr rfl) (pe_op op_sub (pe_callB call_len_seq (by rfl) T.b_len PySem.boot_len (pa_cons (pv 0) pa_nil)) pe_int))
    (pss_cons (ps_setLc (i := 4) (own := [("m", 5)]) rfl sc_slip_at.nd rfl rfl (sw_true rfl rfl rfl (by decide +kernel)) (pi_range1 (by rfl) T.b_range (pa_cons (pe_callB call_len_seq (by rfl) T.b_len PySem.boot_len (pa_cons (pv 1) pa_nil)) pa_nil)) (blkOk_by (own := [("m", 5)]) (N := N_slip_at) (sc := defScope s_slip_at) (by decide +kernel)) (fun _ _ _ _ _ => (pg_name (i := 5) sc_slip_at.nd rfl (Or.inl rfl))) (fun _ _ _ _ _ => (pts_one (PW.pt (pw_and (pt_cmpR op_le (pv 5) (pv 2) (nomark _)) (pw_and1 (pt_cmpR op_le (pv 2) (pe_op op_add (pv 5) (pv 3)) (nomark _))))))) (fun _ _ _ _ _ => (pv 5)))
    (pss_cons (ps_set (i := 6) sc_slip_at.nd rfl (Or.inl rfl) (pe_ix ix_list (pv 4) pe_int (fun _ _ => rfl)))
    (pss_cons (ps_set (i := 7) sc_slip_at.nd rfl (Or.inl rfl) (pe_op op_fdivN (pe_ix ix_list (pv 1) (pv 6) (fun _ _ => rfl)) (pe_ix ix_list (pv 0) (pe_op op_add (pe_op op_sub (pv 3) (pv 2)) (pv 6)) (fun _ _ => rfl))))
    (pss_cons (ps_for PassesOwn.never rfl (pi_range1 (by rfl) T.b_range (pa_cons (pe_callB call_len_seq (by rfl) T.b_len PySem.boot_len (pa_cons (pv 1) pa_nil)) pa_nil)) (pg_name (i := 5) sc_slip_at.nd rfl (Or.inl rfl)) (pss_cons (ps_set (i := 8) sc_slip_at.nd rfl (Or.inl rfl) pe_int)
    (pss_cons (ps_if (PW.pt (pw_and (pt_cmpR op_le (pv 5) (pv 2) (nomark _)) (pw_and1 (pt_cmpR op_le (pv 2) (pe_op op_add (pv 5) (pv 3)) (nomark _))))) (pss_one (ps_set (i := 8) sc_slip_at.nd rfl (Or.inl rfl) (pe_op op_mul (pv 7) (pe_ix ix_list (pv 0) (pe_op op_add (pe_op op_sub (pv 3) (pv 2)) (pv 5)) (fun _ _ => rfl))))) pss_nil)
    (pss_one (ps_if (pt_cmpR op_ne (pe_ix ix_list (pv 1) (pv 5) (fun _ _ => rfl)) (pv 8) (nomark _)) (pss_one (ps_ret pe_int)) pss_nil)))))
    (pss_one (ps_ret (pv 7))))))))
theorem run_slip_at {K : PySem.W.Frag} (c : Cc) (ds : List PyData) (d : PyData) (ha : c.a = none) (h : R_slip_at ds d) : Rn c (t_slip_at K) (entry N_slip_at ds) m0 (fun _ _ => d = .none) (fun d' _ => d' = d) := by
  obtain ⟨pats, found, i, rfl, hp0, hp, hf, hf0, hi, hpa, rfl⟩ := h
  have pj : ∀ j, j < pats.length → pats.getD j 0 ≠ 0 ∧ (pats.getD j 0).natAbs < 1073741824 := fun j hj => hpa _ (getD_mem hj)
  refine r_seq (r_asg (e_I0 (e_lenI (e_var rfl).q) e_int) ?_)
  have hk : (pats.length : Int) - 1 = ((pats.length - 1 : Nat) : Int) := by omega
  refine r_seq (r_asg ((n_lcR (f := fun m => decide ((m : Int) ≤ (i : Int)) && decide ((i : Int) ≤ (m : Int) + ((pats.length : Int) - 1))) (v := fun m => .int (m : Int)) (a_cons (e_lenI (e_var rfl).q) a_nil) (by omega) (by omega) (by decide)
    (fun m hm => b_and (b_test (e_C0 (e_var rfl) (e_var rfl))) fun _ => b_test (e_C0 (e_var rfl) (e_I0 (e_var rfl) (e_var rfl)))) (fun m hm _ => e_var rfl)).s) ?_)
  have first : (givenD (found.length : Int).toNat (fun m => decide ((m : Int) ≤ (i : Int)) && decide ((i : Int) ≤ (m : Int) + ((pats.length : Int) - 1))) (fun m => PyData.int (m : Int)))[0]? = some (.int ((i - (pats.length - 1) : Nat) : Int)) := by
    unfold givenD
    rw [List.getElem?_map, Int.toNat_natCast, filt_first (a := i - (pats.length - 1)) (by omega)]
    · rfl
    · rw [Bool.and_eq_true, decide_eq_true_eq, decide_eq_true_eq]
      omega
    · intro j hj
      rw [Bool.and_eq_false_iff, decide_eq_false_iff_not, decide_eq_false_iff_not]
      omega
  refine r_seq (r_asg (e_ix (e_var rfl).q e_int (by decide) first) ?_)
  have ix : ∀ m : Nat, m ≤ i → i ≤ m + (pats.length - 1) → ((pats.length : Int) - 1 - (i : Int) + (m : Int)).toNat = pats.length - 1 + m - i := fun m h1 h2 => by omega
  have e0 := ix (i - (pats.length - 1)) (by omega) (by omega)
  have he := pj (pats.length - 1 + (i - (pats.length - 1)) - i) (by omega)
  refine r_seq (r_asg ((e_I (e_ixI (e_var rfl).q (e_var rfl) (by omega) (by omega)) (e_ixI (e_var rfl).q (e_I0 (e_I0 (e_var rfl) (e_var rfl)) (e_var rfl)) (by omega) (by omega)) (by rw [e0]; exact he)).is (d' := .int (slipE pats found i)) (by rw [e0, Int.toNat_natCast] <;> rfl)) ?_)
  refine r_seq (r_forR (a_cons (e_lenI (e_var rfl).q) a_nil) (by omega) (by omega) (fun m => [.val (dI pats), .val (dI found), .val (.int (i : Int)), .val (.int ((pats.length : Int) - 1)), .no, .no, .no, .val (.int (slipE pats found i)), .no]) (fun _ => m0)
    (fun m => ∀ j, j < m → found.getD j 0 = dueAt pats (slipE pats found i) i j)
    ⟨.inr rfl, .inr rfl, .inr rfl, .inr rfl, .inl rfl, .inl rfl, .inl rfl, .inr rfl, .inl rfl, trivial⟩ rfl (fun j hj => absurd hj (Nat.not_lt_zero _)) (fun B m hm hG => ?_) (fun hG => ?_))
  · have key : ∀ τ, τ = [SD.val (dI pats), .val (dI found), .val (.int (i : Int)), .val (.int ((pats.length : Int) - 1)), .no, .val (.int (m : Int)), .no, .val (.int (slipE pats found i)), .val (.int (dueAt pats (slipE pats found i) i m))] →
        Rn (c.on B) (tIfS (tTest (tOp rNe (tOp (rIxL K) (tVar 1) (tVar 5)) (tVar 8))) (tRet (tC (.int 0))) tNext) τ m0 (fun τ' m' => WkL τ' [.val (dI pats), .val (dI found), .val (.int (i : Int)), .val (.int ((pats.length : Int) - 1)), .no, .no, .no, .val (.int (slipE pats found i)), .no] ∧ m' = m0 ∧ ∀ j, j < m + 1 → found.getD j 0 = dueAt pats (slipE pats found i) i j)
          (fun d' _ => d' = .int (slipM pats found i)) := fun τ e => by
      subst e
      refine r_if (b_test (e_neI (e_ixI (e_var rfl).q (e_var rfl) (by omega) (by omega)) (e_var rfl))) (fun hb => ?_) (fun hb => ?_)
      · rw [Int.toNat_natCast] at hb
        have hne : ¬ found.getD m 0 = dueAt pats (slipE pats found i) i m := by simpa using hb
        refine r_ret e_int ?_
        unfold slipM
        rw [if_neg]
        intro hall
        have := List.all_eq_true.mp hall m (List.mem_range.mpr (by omega))
        exact hne (of_decide_eq_true this)
      · rw [Int.toNat_natCast] at hb
        have heq : found.getD m 0 = dueAt pats (slipE pats found i) i m := by simpa using hb
        refine r_next ⟨⟨.inr rfl, .inr rfl, .inr rfl, .inr rfl, .inl rfl, .inl rfl, .inl rfl, .inr rfl, .inl rfl, trivial⟩, rfl, fun j hj => ?_⟩
        rcases Nat.lt_or_ge j m with h | h
        · exact hG j h
        · have : j = m := by omega
          rw [this]
          exact heq
    refine r_seq (r_asg e_int ?_)
    refine r_seq (r_if (b_and (b_test (e_C0 (e_var rfl) (e_var rfl))) fun _ => b_test (e_C0 (e_var rfl) (e_I0 (e_var rfl) (e_var rfl)))) (fun hb => ?_) (fun hb => ?_))
    · rw [Bool.and_eq_true, decide_eq_true_eq, decide_eq_true_eq] at hb
      have e1 := ix m (by omega) (by omega)
      have hq := pj (pats.length - 1 + m - i) (by omega)
      refine r_asg (e_I (e_var rfl) (e_ixI (e_var rfl).q (e_I0 (e_I0 (e_var rfl) (e_var rfl)) (e_var rfl)) (by omega) (by omega)) (.inr (by rw [e1]; omega))) (key _ ?_)
      have e2 : dueAt pats (slipE pats found i) i m = slipE pats found i * pats.getD (pats.length - 1 + m - i) 0 := if_pos (by omega)
      rw [e1, e2] <;> rfl
    · have e2 : dueAt pats (slipE pats found i) i m = 0 := if_neg (by
        rw [Bool.and_eq_false_iff, decide_eq_false_iff_not, decide_eq_false_iff_not] at hb
        omega)
      refine r_next (key _ ?_)
      rw [e2] <;> rfl
  · refine r_ret (e_var rfl) ?_
    rw [Int.toNat_natCast] at hG
    unfold slipM
    rw [if_pos]
    exact List.all_eq_true.mpr fun j hj => decide_eq_true (hG j (List.mem_range.mp hj))
theorem cal_slip_at {P : Program} {w : World} {K : PySem.W.Frag} {mg : Str → Option Value} {base : Heap} {C CR : Addr} (T : Tx K mg C CR) : CalX P w K mg base CX0 1 "slip_at" (spD R_slip_at) :=
  cal_of T.d_slip_at sc_slip_at bi_slip_at (spD_len len_slip_at) (d_slip_at T) (pure_of run_slip_at)

/-! #### clerk -/
def clerkM (k : Nat) (l : List Int) : List Int := match (List.range l.length).find? fun i => decide (slipM (chM k) (Vbcead.differences k l) i ≠ 0) with
  | some i => [(i : Int), slipM (chM k) (Vbcead.differences k l) i]
  | none => []
theorem chM_ok : ∀ k, k ≤ 7 → ∀ a ∈ chM k, a ≠ 0 ∧ a.natAbs < 1073741824 := by decide
def R_clerk (ds : List PyData) (d : PyData) : Prop := ∃ (l : List Int) (k : Nat), ds = [dI l, .int (k : Int)] ∧ l.length ≤ 1000 ∧ k < l.length ∧ k ≤ 7 ∧ d = dI (clerkM k l)
theorem len_clerk : ∀ ds d, R_clerk ds d → ds.length = 2 := fun _ _ ⟨_, _, h, _⟩ => by rw [h] <;> rfl
theorem find_at {n i : Nat} {f : Nat → Bool} (hi : i < n) (h1 : f i = true) (h2 : ∀ j, j < i → f j = false) : (List.range n).find? f = some i := by
  rw [List.find?_range_eq_some]
  refine ⟨h1, List.mem_range.mpr hi, fun j hj => ?_⟩
  rw [h2 j hj] <;> rfl
theorem find_none {n : Nat} {f : Nat → Bool} (h : ∀ j, j < n → f j = false) : (List.range n).find? f = none := by
  rw [List.find?_eq_none]
  intro j hj
  rw [h j (List.mem_range.mp hj)]
  exact Bool.false_ne_true
abbrev s_clerk : Stmt := top 17
abbrev N_clerk : List Str := ["lines", "k", "found", "patterns", "i", "e"]
theorem sc_clerk : FnScope N_clerk ["lines", "k"] (defScope s_clerk) := C8.fnScope_by (by decide +kernel)
theorem bi_clerk : BindsAt "clerk" s_clerk ["lines", "k"] := fun _ _ _ _ _ _ us hl => match us, hl with | [_, _], _ => rfl
def t_clerk (K : PySem.W.Frag) : TS :=
  (tSeq (tAsg (tCall (spD R_differences) [] E0 (tCons (tVar 0) (tCons (tVar 1) tNil))) (gName 2))
    (tSeq (tAsg (tCall (spD R_choices) [] E0 (tCons (tVar 1) tNil)) (gName 3))
    (tSeq (tFor (iRng1 (tCons (tCB (rLenS K) (tCons (tVar 0) tNil)) tNil)) (gName 4) (tSeq (tAsg (tCall (spD R_slip_at) [] E0 (tCons (tVar 3) (tCons (tVar 2) (tCons (tVar 4) tNil)))) (gName 5))
    (tIfS (tTest (tOp rNe (tVar 5) (tC (.int 0)))) (tRet (tLst (tCons (tVar 4) (tCons (tVar 5) tNil)))) tNext)))
    (tRet (tLst tNil)))))
theorem d_clerk {P : Program} {w : World} {K : PySem.W.Frag} {mg : Str → Option Value} {base : Heap} {C CR : Addr} (T : Tx K mg C CR) (f : Addr) (cdv : Value) (A : Around) (outer : List Env) (s : Shared) (H : Hp) (E : XK) (hr : Room 1 (A.deeper (envOfC "clerk" (defScope s_clerk) s.heap.objs.size f cdv))) :
    PSs (cxOf CX0 P w K mg base N_clerk "clerk" (defScope s_clerk) f cdv A outer s H E).nox (defBody s_clerk) (t_clerk K) :=
  (pss_cons (ps_set (i := 2) sc_clerk.nd rfl (Or.inl rfl) (pe_cal (cal_differences T) hr (by decide) (by rfl) (pa_cons (pv 0) (pa_cons (pv 1) pa_nil))))
    (pss_cons (ps_set (i := 3) sc_clerk.nd rfl (Or.inl rfl) (pe_cal (cal_choices T) hr (by decide) (by rfl) (pa_cons (pv 1) pa_nil)))
    (pss_cons (ps_for PassesOwn.never rfl (pi_range1 (by rfl) T.b_range (pa_cons (pe_callB call_len_seq (by rfl) T.b_len PySem.boot_len (pa_cons (pv 0) pa_nil)) pa_nil)) (pg_name (i := 4) sc_clerk.nd rfl (Or.inl rfl)) (pss_cons (ps_set (i := 5) sc_clerk.nd rfl (Or.inl rfl) (pe_cal (cal_slip_at T) hr (by decide) (by rfl) (pa_cons (pv 3) (pa_cons (pv 2) (pa_cons (pv 4) pa_nil)))))
    (pss_one (ps_if (pt_cmpR op_ne (pv 5) pe_int (nomark _)) (pss_one (ps_ret (pe_lst (pa_cons (pv 4) (pa_cons (pv 5) pa_nil))))) pss_nil))))
    (pss_one (ps_ret (pe_lst pa_nil))))))
theorem run_clerk {K : PySem.W.Frag} (c : Cc) (ds : List PyData) (d : PyData) (ha : c.a = none) (h : R_clerk ds d) : Rn c (t_clerk K) (entry N_clerk ds) m0 (fun _ _ => d = .none) (fun d' _ => d' = d) := by
  obtain ⟨l, k, rfl, hl, hk, hk7, rfl⟩ := h
  have hd := diffs_len k l
  have hc := chM_len k
  refine r_seq (r_asg (e_call (a_cons (e_var rfl) (a_cons (e_var rfl) a_nil)) ⟨l, k, rfl, hl, rfl⟩) ?_)
  refine r_seq (r_asg (e_call (a_cons (e_var rfl) a_nil) ⟨k, rfl, by omega, rfl⟩) ?_)
  refine r_seq (r_forR (a_cons (e_lenI (e_var rfl).q) a_nil) (by omega) (by omega) (fun _ => [.val (dI l), .val (.int (k : Int)), .val (dI (Vbcead.differences k l)), .val (dI (chM k)), .no, .no]) (fun _ => m0)
    (fun i => ∀ j, j < i → slipM (chM k) (Vbcead.differences k l) j = 0)
    ⟨.inr rfl, .inr rfl, .inr rfl, .inr rfl, .inl rfl, .inl rfl, trivial⟩ rfl (fun j hj => absurd hj (Nat.not_lt_zero _)) (fun B i hi hG => ?_) (fun hG => ?_))
  · refine r_seq (r_asg (e_call (a_cons (e_var rfl) (a_cons (e_var rfl) (a_cons (e_var rfl) a_nil))) ⟨chM k, _, i, rfl, by omega, by omega, by omega, by omega, by omega, chM_ok k hk7, rfl⟩) ?_)
    refine r_if (b_test (e_neI (e_var rfl) e_int)) (fun hb => ?_) (fun hb => ?_)
    · have hne : slipM (chM k) (Vbcead.differences k l) i ≠ 0 := by simpa using hb
      refine r_ret (n_lst (a_cons (e_var rfl) (a_cons (e_var rfl) a_nil)) (by show 2 ≤ _; decide)).s ?_
      unfold clerkM
      rw [find_at (i := i) (f := fun i => decide (slipM (chM k) (Vbcead.differences k l) i ≠ 0)) (by omega) (decide_eq_true hne) fun j hj => decide_eq_false fun z => z (hG j hj)] <;> rfl
    · have heq : slipM (chM k) (Vbcead.differences k l) i = 0 := by simpa using hb
      refine r_next ⟨⟨.inr rfl, .inr rfl, .inr rfl, .inr rfl, .inl rfl, .inl rfl, trivial⟩, rfl, fun j hj => ?_⟩
      rcases Nat.lt_or_ge j i with h | h
      · exact hG j h
      · have : j = i := by omega
        rw [this]
        exact heq
  · rw [Int.toNat_natCast] at hG
    refine r_ret (n_lst a_nil (by decide)).s ?_
    unfold clerkM
    rw [find_none (f := fun i => decide (slipM (chM k) (Vbcead.differences k l) i ≠ 0)) fun j hj => decide_eq_false fun z => z (hG j hj)] <;> rfl
theorem cal_clerk {P : Program} {w : World} {K : PySem.W.Frag} {mg : Str → Option Value} {base : Heap} {C CR : Addr} (T : Tx K mg C CR) : CalX P w K mg base CX0 2 "clerk" (spD R_clerk) :=
  cal_of T.d_clerk sc_clerk bi_clerk (spD_len len_clerk) (d_clerk T) (pure_of run_clerk)

/-! #### halfway -/
def halfwayTo (k : Nat) (l : List Int) (t : Nat) : List Int := (List.range l.length).map fun x => if k - 1 ≤ x ∧ x < k - 1 + t then l.getD x 0 + prodM (x : Int) ((List.range (k - 1)).map fun (i : Nat) => (i : Int)) else l.getD x 0
theorem halfwayTo_len {k : Nat} {l : List Int} {t : Nat} : (halfwayTo k l t).length = l.length := by unfold halfwayTo; rw [List.length_map, List.length_range]
theorem halfwayTo_zero {k : Nat} {l : List Int} : halfwayTo k l 0 = l := by
  unfold halfwayTo
  refine Eq.trans (List.map_congr_left fun j _ => ?_) (range_getD l)
  rw [if_neg (by omega)]
theorem halfwayTo_get {k : Nat} {l : List Int} {t : Nat} (h : k - 1 + t < l.length) : (halfwayTo k l t).getD (k - 1 + t) 0 = l.getD (k - 1 + t) 0 := by
  unfold halfwayTo
  rw [List.getD_eq_getElem?_getD, List.getElem?_map, List.getElem?_range h]
  show (if _ then _ else _) = _
  rw [if_neg (by omega)]
theorem halfwayTo_set {k : Nat} {l : List Int} {t : Nat} : (halfwayTo k l t).set (k - 1 + t) (l.getD (k - 1 + t) 0 + prodM ((k - 1 + t : Nat) : Int) ((List.range (k - 1)).map fun (i : Nat) => (i : Int))) = halfwayTo k l (t + 1) := by
  unfold halfwayTo
  rw [set_range]
  refine List.map_congr_left fun j _ => ?_
  by_cases e : j = k - 1 + t
  · subst e
    rw [if_pos rfl, if_pos (by omega)]
  · rw [if_neg e]
    by_cases hj : k - 1 ≤ j ∧ j < k - 1 + t
    · rw [if_pos hj, if_pos (by omega)]
    · rw [if_neg hj, if_neg (by omega)]
def R_halfway (ds : List PyData) (d : PyData) : Prop := ∃ (l : List Int) (k : Nat), ds = [dI l, .int (k : Int)] ∧ l.length ≤ 1000 ∧ 1 ≤ k ∧ k ≤ l.length ∧ d = .tuple [.int (((l.length - k + 2) / 2 : Nat) : Int), dI (halfwayTo k l ((l.length - k + 2) / 2))]
theorem len_halfway : ∀ ds d, R_halfway ds d → ds.length = 2 := fun _ _ ⟨_, _, h, _⟩ => by rw [h] <;> rfl
abbrev s_halfway : Stmt := top 20
abbrev N_halfway : List Str := ["lines", "k", "many", "found", "x"]
theorem sc_halfway : FnScope N_halfway ["lines", "k"] (defScope s_halfway) := C8.fnScope_by (by decide +kernel)
theorem bi_halfway : BindsAt "halfway" s_halfway ["lines", "k"] := fun _ _ _ _ _ _ us hl => match us, hl with | [_, _], _ => rfl
def t_halfway (K : PySem.W.Frag) : TS :=
  (tSeq (tAsg (tOp (rI CDiv fun i j => .int (i / j)) (tOp (rI0 fun i j => .int (i + j)) (tOp (rI0 fun i j => .int (i - j)) (tCB (rLenS K) (tCons (tVar 0) tNil)) (tVar 1)) (tC (.int 2))) (tC (.int 2))) (gName 2))
    (tSeq (tAsg (tCB (rListS K) (tCons (tVar 0) tNil)) (gName 3))
    (tSeq (tFor (iRng2 (tCons (tOp (rI0 fun i j => .int (i - j)) (tVar 1) (tC (.int 1))) (tCons (tOp (rI0 fun i j => .int (i + j)) (tOp (rI0 fun i j => .int (i - j)) (tVar 1) (tC (.int 1))) (tVar 2)) tNil))) (gName 4) (tAugS (tVar 3) (tVar 4) (tCall (spD R_product_at) [] E0 (tCons (tVar 4) (tCons (tLstRg (tRg1 (tOp (rI0 fun i j => .int (i - j)) (tVar 1) (tC (.int 1))))) tNil))) (rGetL K) (ipI fun i j => i + j) rSetL))
    (tRet (tTup (tCons (tVar 2) (tCons (tVar 3) tNil)))))))
theorem d_halfway {P : Program} {w : World} {K : PySem.W.Frag} {mg : Str → Option Value} {base : Heap} {C CR : Addr} (T : Tx K mg C CR) (f : Addr) (cdv : Value) (A : Around) (outer : List Env) (s : Shared) (H : Hp) (E : XK) (hr : Room 1 (A.deeper (envOfC "halfway" (defScope s_halfway) s.heap.objs.size f cdv))) :
    PSs (cxOf CX0 P w K mg base N_halfway "halfway" (defScope s_halfway) f cdv A outer s H E).nox (defBody s_halfway) (t_halfway K) :=
  (pss_cons (ps_set (i := 2) sc_halfway.nd rfl (Or.inl rfl) (pe_op op_fdiv (pe_op op_add (pe_op op_sub (pe_callB call_len_seq (by rfl) T.b_len PySem.boot_len (pa_cons (pv 0) pa_nil)) (pv 1)) pe_int) pe_int))
    (pss_cons (ps_set (i := 3) sc_halfway.nd rfl (Or.inl rfl) (pe_callTy call_list_of (by rfl) T.b_list PyProof.Rows.boot_list (pa_cons (pv 0) pa_nil)))
    (pss_cons (ps_for PassesOwn.never rfl (pi_range2 (by rfl) T.b_range (pa_cons (pe_op op_sub (pv 1) pe_int) (pa_cons (pe_op op_add (pe_op op_sub (pv 1) pe_int) (pv 2)) pa_nil))) (pg_name (i := 4) sc_halfway.nd rfl (Or.inl rfl)) (pss_one (ps_augS (pv 3) (pv 4) get_list (pe_cal (cal_product_at T) hr (by decide) (by rfl) (pa_cons (pv 4) (pa_cons (pe_listRg rfl (by rfl) T.b_list (prg_1 (by rfl) T.b_range (pe_op op_sub (pv 1) pe_int))) pa_nil))) ip_add set_list)))
    (pss_one (ps_ret (pe_tup (pa_cons (pv 2) (pa_cons (pv 3) pa_nil))))))))
theorem run_halfway {K : PySem.W.Frag} (c : Cc) (ds : List PyData) (d : PyData) (ha : c.a = none) (h : R_halfway ds d) : Rn c (t_halfway K) (entry N_halfway ds) m0 (fun _ _ => d = .none) (fun d' _ => d' = d) := by
  obtain ⟨l, k, rfl, hl, hk1, hk, rfl⟩ := h
  have ef : ((l.length : Int) - (k : Int) + 2) / 2 = (((l.length - k + 2) / 2 : Nat) : Int) := by omega
  refine r_seq (r_asg ((e_I (e_I0 (e_I0 (e_lenI (e_var rfl).q) (e_var rfl)) e_int) e_int ⟨by decide, by decide⟩).is (congrArg PyData.int ef)) ?_)
  refine r_seq (r_asgN (n_list (e_var rfl).q) ?_)
  have e1 : (k : Int) - 1 = ((k - 1 : Nat) : Int) := by omega
  refine r_seq (r_forR2 (a_cons (e_I0 (e_var rfl) e_int) (a_cons (e_I0 (e_I0 (e_var rfl) e_int) (e_var rfl)) a_nil)) ⟨by omega, by omega, by omega, by omega⟩ (fun t => [.val (dI l), .val (.int (k : Int)), .val (.int (((l.length - k + 2) / 2 : Nat) : Int)), .own (nI (halfwayTo k l t)), .no]) (fun _ => m0) (fun _ => True)
    ⟨.inr rfl, .inr rfl, .inr rfl, .inr (by rw [halfwayTo_zero]), .inl rfl, trivial⟩ rfl trivial (fun B t ht _ => ?_) (fun _ => ?_))
  · have ex : (k : Int) - 1 + (t : Int) = ((k - 1 + t : Nat) : Int) := by omega
    have hx : k - 1 + t < l.length := by omega
    rw [ex]
    have hr : ((k : Int) - 1).toNat = k - 1 := by omega
    refine r_augS rfl (e_var rfl) (by omega) (by rw [halfwayTo_len]; omega) (e_call (a_cons (e_var rfl) (a_cons (n_lstRg (e_I0 (e_var rfl) e_int) (by omega) (by omega)).s a_nil)) ⟨_, _, rfl, by omega, fun i hi => ?_, rfl⟩) ⟨⟨.inr rfl, .inr rfl, .inr rfl, .inr ?_, .inl rfl, trivial⟩, rfl, trivial⟩
    · obtain ⟨j, hj, rfl⟩ := List.mem_map.mp hi
      have := List.mem_range.mp hj
      omega
    · rw [Int.toNat_natCast, halfwayTo_get hx, hr, halfwayTo_set]
  · refine r_plain (i := 3) rfl (r_ret (e_tup (a_cons (e_var rfl) (a_cons (e_var rfl) a_nil)) (by show 2 ≤ _; decide)) ?_)
    have e2 : ((k : Int) - 1 + (((l.length - k + 2) / 2 : Nat) : Int) - ((k : Int) - 1)).toNat = (l.length - k + 2) / 2 := by omega
    rw [e2]
theorem cal_halfway {P : Program} {w : World} {K : PySem.W.Frag} {mg : Str → Option Value} {base : Heap} {C CR : Addr} (T : Tx K mg C CR) : CalX P w K mg base CX0 2 "halfway" (spD R_halfway) :=
  cal_of T.d_halfway sc_halfway bi_halfway (spD_len len_halfway) (d_halfway T) (pure_of run_halfway)

end CE
namespace CE
open PySem PySem.Spec PyProof.Rows L2
open Evl (Ex rLenS rListS sz_of sz_lt)

/-! #### common -/
def R_common (ds : List PyData) (d : PyData) : Prop := ∃ (a b : Int), ds = [.int a, .int b] ∧ d = .int (Nat.gcd a.natAbs b.natAbs : Int)
theorem len_common : ∀ ds d, R_common ds d → ds.length = 2 := fun _ _ ⟨_, _, h, _⟩ => by rw [h] <;> rfl
abbrev s_common : Stmt := top 22
abbrev N_common : List Str := ["one", "other"]
theorem sc_common : FnScope N_common ["one", "other"] (defScope s_common) := C8.fnScope_by (by decide +kernel)
theorem bi_common : BindsAt "common" s_common ["one", "other"] := fun _ _ _ _ _ _ us hl => match us, hl with | [_, _], _ => rfl
def t_common (K : PySem.W.Frag) : TS :=
  (tSeq (tAsg (tCB rAbs (tCons (tVar 0) tNil)) (gName 0))
    (tSeq (tAsg (tCB rAbs (tCons (tVar 1) tNil)) (gName 1))
    (tSeq (tWhile (tTest (tOp (rI0 fun i j => .bl (decide (j < i))) (tVar 1) (tC (.int 0)))) (tPar 0 1 (tCons (tVar 1) (tCons (tOp (rI (fun _ j => 0 < j) fun i j => .int (i % j)) (tVar 0) (tVar 1)) tNil))))
    (tRet (tVar 0)))))
theorem d_common {P : Program} {w : World} {K : PySem.W.Frag} {mg : Str → Option Value} {base : Heap} {C CR : Addr} (T : Tx K mg C CR) (f : Addr) (cdv : Value) (A : Around) (outer : List Env) (s : Shared) (H : Hp) (E : XK) (hr : Room 0 (A.deeper (envOfC "common" (defScope s_common) s.heap.objs.size f cdv))) :
    PSs (cxOf CX0 P w K mg base N_common "common" (defScope s_common) f cdv A outer s H E).nox (defBody s_common) (t_common K) :=
  (pss_cons (ps_set (i := 0) sc_common.nd rfl (Or.inl rfl) (pe_callB call_abs (by rfl) T.b_abs (by decide +kernel) (pa_cons (pv 0) pa_nil)))
    (pss_cons (ps_set (i := 1) sc_common.nd rfl (Or.inl rfl) (pe_callB call_abs (by rfl) T.b_abs (by decide +kernel) (pa_cons (pv 1) pa_nil)))
    (pss_cons (ps_while PassesOwn.never (pt_cmpR op_gt (pv 1) pe_int (nomark _)) (pss_one (ps_par (i := 0) (j := 1) rfl sc_common.nd rfl rfl (by decide) rfl rfl (pa_cons (pv 1) (pa_cons (pe_op op_mod (pv 0) (pv 1)) pa_nil)) (by rfl))))
    (pss_one (ps_ret (pv 0))))))
theorem run_common {K : PySem.W.Frag} (c : Cc) (ds : List PyData) (d : PyData) (ha : c.a = none) (h : R_common ds d) : Rn c (t_common K) (entry N_common ds) m0 (fun _ _ => d = .none) (fun d' _ => d' = d) := by
  obtain ⟨a, b, rfl, rfl⟩ := h
  refine r_seq (r_asg (e_abs (e_var rfl)) ?_)
  refine r_seq (r_asg (e_abs (e_var rfl)) ?_)
  refine r_seq (r_while (β := { x : Nat × Nat // Nat.gcd x.1 x.2 = Nat.gcd a.natAbs b.natAbs }) (fun x => [.val (.int (x.1.1 : Int)), .val (.int (x.1.2 : Int))]) (fun _ => m0) (fun x => x.1.2) ⟨(a.natAbs, b.natAbs), rfl⟩ ⟨.inr rfl, .inr rfl, trivial⟩ rfl (fun x => decide ((0 : Int) < (x.1.2 : Int)))
    (fun x => b_test (e_C0 (g := fun i j => decide (j < i)) (e_var rfl) e_int)) (fun x hb => ?_) (fun x hb => ?_))
  · obtain ⟨⟨u, v⟩, hx⟩ := x
    have hv : 0 < v := by
      have h1 : (0 : Int) < (v : Int) := of_decide_eq_true hb
      omega
    refine r_par (a_cons (e_var rfl) (a_cons (e_I (e_var rfl) (e_var rfl) (by show (0 : Int) < (v : Int); omega)) a_nil)) ⟨⟨(v, u % v), ?_⟩, Nat.mod_lt _ hv, ⟨.inr rfl, .inr rfl, trivial⟩, rfl⟩
    show Nat.gcd v (u % v) = _
    rw [← hx, Nat.gcd_comm v, ← Nat.gcd_rec v u, Nat.gcd_comm]
  · obtain ⟨⟨u, v⟩, hx⟩ := x
    have hv : v = 0 := by
      have := of_decide_eq_false hb
      have h2 : ¬ (0 : Int) < (v : Int) := this
      omega
    refine r_ret (e_var rfl) ?_
    subst hv
    have : Nat.gcd u 0 = Nat.gcd a.natAbs b.natAbs := hx
    rw [Nat.gcd_zero_right] at this
    show PyData.int (u : Int) = _
    rw [this]
theorem cal_common {P : Program} {w : World} {K : PySem.W.Frag} {mg : Str → Option Value} {base : Heap} {C CR : Addr} (T : Tx K mg C CR) : CalX P w K mg base CX0 1 "common" (spD R_common) :=
  cal_of T.d_common sc_common bi_common (spD_len len_common) (d_common T) (pure_of run_common)

/-! #### lowest -/
/-- a fraction as it's told -/
def fr (q : Rat) : PyData := .tuple [.int q.num, .int (q.den : Int)]
theorem fdiv_exact {a b c : Int} (hb : b ≠ 0) (h : a = b * c) : a.fdiv b = c := by
  subst h
  exact Int.mul_fdiv_cancel_left c hb
theorem low_num {t b : Int} (hb : b ≠ 0) : t.fdiv (if b < 0 then 0 - (Nat.gcd t.natAbs b.natAbs : Int) else (Nat.gcd t.natAbs b.natAbs : Int)) = (Rat.divInt t b).num ∧
    b.fdiv (if b < 0 then 0 - (Nat.gcd t.natAbs b.natAbs : Int) else (Nat.gcd t.natAbs b.natAbs : Int)) = ((Rat.divInt t b).den : Int) := by
  have hg : 0 < Nat.gcd t.natAbs b.natAbs := Nat.gcd_pos_of_pos_right _ (by omega)
  have e : b.gcd t = Nat.gcd t.natAbs b.natAbs := by
    unfold Int.gcd
    exact Nat.gcd_comm _ _
  obtain ⟨t', ht⟩ : ((Nat.gcd t.natAbs b.natAbs : Nat) : Int) ∣ t := Int.ofNat_dvd_left.mpr (Nat.gcd_dvd_left _ _)
  obtain ⟨b', hb'⟩ : Nat.gcd t.natAbs b.natAbs ∣ b.natAbs := Nat.gcd_dvd_right _ _
  rw [Rat.num_divInt, Rat.den_divInt, if_neg hb, e]
  generalize Nat.gcd t.natAbs b.natAbs = g at *
  have hden : b.natAbs / g = b' := by rw [hb']; exact Nat.mul_div_cancel_left _ hg
  rw [hden]
  by_cases h : b < 0
  · rw [if_pos h, Int.sign_eq_neg_one_of_neg h]
    refine ⟨?_, ?_⟩
    · rw [fdiv_exact (c := -t') (by omega) (by rw [ht]; simp [Int.mul_neg, Int.neg_mul])]
      rw [ht, show (-1 : Int) * ((g : Int) * t') = (g : Int) * (-t') by simp [Int.mul_neg]]
      exact (Int.mul_ediv_cancel_left _ (by omega)).symm
    · refine fdiv_exact (by omega) ?_
      have : (b.natAbs : Int) = (g : Int) * (b' : Int) := by rw [hb']; exact Int.natCast_mul _ _
      rw [show (0 - (g : Int)) * (b' : Int) = -((g : Int) * (b' : Int)) by simp [Int.neg_mul], ← this]
      omega
  · rw [if_neg h, Int.sign_eq_one_of_pos (by omega)]
    refine ⟨?_, ?_⟩
    · rw [fdiv_exact (c := t') (by omega) ht, Int.one_mul]
      rw [ht]
      exact (Int.mul_ediv_cancel_left _ (by omega)).symm
    · refine fdiv_exact (by omega) ?_
      have : (b.natAbs : Int) = (g : Int) * (b' : Int) := by rw [hb']; exact Int.natCast_mul _ _
      rw [← this]
      omega
def R_lowest (ds : List PyData) (d : PyData) : Prop := ∃ (t b : Int), ds = [.int t, .int b] ∧ b ≠ 0 ∧ b.natAbs < 2 ^ 8999 ∧ d = fr (Rat.divInt t b)
theorem len_lowest : ∀ ds d, R_lowest ds d → ds.length = 2 := fun _ _ ⟨_, _, h, _⟩ => by rw [h] <;> rfl
theorem log2_small {n b : Nat} (h : n < 2 ^ b) (hb : 0 < b) : n.log2 < b := PySem.Flt.log2_lt_of hb h
abbrev s_lowest : Stmt := top 23
abbrev N_lowest : List Str := ["top", "bottom", "part"]
theorem sc_lowest : FnScope N_lowest ["top", "bottom"] (defScope s_lowest) := C8.fnScope_by (by decide +kernel)
theorem bi_lowest : BindsAt "lowest" s_lowest ["top", "bottom"] := fun _ _ _ _ _ _ us hl => match us, hl with | [_, _], _ => rfl
def t_lowest (K : PySem.W.Frag) : TS :=
  (tSeq (tAsg (tCall (spD R_common) [] E0 (tCons (tVar 0) (tCons (tVar 1) tNil))) (gName 2))
    (tSeq (tIfS (tTest (tOp (rI0 fun i j => .bl (decide (i < j))) (tVar 1) (tC (.int 0)))) (tAsg (tOp (rI0 fun i j => .int (i - j)) (tC (.int 0)) (tVar 2)) (gName 2)) tNext)
    (tRet (tTup (tCons (tOp (rI CDivZ fun i j => .int (i.fdiv j)) (tVar 0) (tVar 2)) (tCons (tOp (rI CDivZ fun i j => .int (i.fdiv j)) (tVar 1) (tVar 2)) tNil))))))
theorem d_lowest {P : Program} {w : World} {K : PySem.W.Frag} {mg : Str → Option Value} {base : Heap} {C CR : Addr} (T : Tx K mg C CR) (f : Addr) (cdv : Value) (A : Around) (outer : List Env) (s : Shared) (H : Hp) (E : XK) (hr : Room 1 (A.deeper (envOfC "lowest" (defScope s_lowest) s.heap.objs.size f cdv))) :
    PSs (cxOf CX0 P w K mg base N_lowest "lowest" (defScope s_lowest) f cdv A outer s H E).nox (defBody s_lowest) (t_lowest K) :=
  (pss_cons (ps_set (i := 2) sc_lowest.nd rfl (Or.inl rfl) (pe_cal (cal_common T) hr (by decide) (by rfl) (pa_cons (pv 0) (pa_cons (pv 1) pa_nil))))
    (pss_cons (ps_if (pt_cmpR op_lt (pv 1) pe_int (nomark _)) (pss_one (ps_set (i := 2) sc_lowest.nd rfl (Or.inl rfl) (pe_op op_sub pe_int (pv 2)))) pss_nil)
    (pss_one (ps_ret (pe_tup (pa_cons (pe_op op_fdivZ (pv 0) (pv 2)) (pa_cons (pe_op op_fdivZ (pv 1) (pv 2)) pa_nil)))))))
theorem run_lowest {K : PySem.W.Frag} (c : Cc) (ds : List PyData) (d : PyData) (ha : c.a = none) (h : R_lowest ds d) : Rn c (t_lowest K) (entry N_lowest ds) m0 (fun _ _ => d = .none) (fun d' _ => d' = d) := by
  obtain ⟨t, b, rfl, hb, hs, rfl⟩ := h
  have hg : 0 < Nat.gcd t.natAbs b.natAbs := Nat.gcd_pos_of_pos_right _ (by omega)
  have hl : Nat.gcd t.natAbs b.natAbs < 2 ^ 8999 := Nat.lt_of_le_of_lt (Nat.le_of_dvd (by omega) (Nat.gcd_dvd_right _ _)) hs
  have key := low_num (t := t) (b := b) hb
  have last : ∀ τ, τ = [SD.val (.int t), .val (.int b), .val (.int (if b < 0 then 0 - (Nat.gcd t.natAbs b.natAbs : Int) else (Nat.gcd t.natAbs b.natAbs : Int)))] →
      Rn c (tRet (tTup (tCons (tOp (rI CDivZ fun i j => .int (i.fdiv j)) (tVar 0) (tVar 2)) (tCons (tOp (rI CDivZ fun i j => .int (i.fdiv j)) (tVar 1) (tVar 2)) tNil)))) τ m0 (fun _ _ => fr (Rat.divInt t b) = .none) (fun d' _ => d' = fr (Rat.divInt t b)) := fun τ e => by
    subst e
    have hc : ∀ i, CDivZ i (if b < 0 then 0 - (Nat.gcd t.natAbs b.natAbs : Int) else (Nat.gcd t.natAbs b.natAbs : Int)) := fun i => by
      refine ⟨by split <;> omega, ?_⟩
      have e : (if b < 0 then 0 - (Nat.gcd t.natAbs b.natAbs : Int) else (Nat.gcd t.natAbs b.natAbs : Int)).natAbs = Nat.gcd t.natAbs b.natAbs := by split <;> omega
      rw [e]
      exact Nat.lt_of_lt_of_le (log2_small hl (by decide)) (by decide)
    refine r_ret (e_tup (a_cons (e_I (e_var rfl) (e_var rfl) (hc _)) (a_cons (e_I (e_var rfl) (e_var rfl) (hc _)) a_nil)) (by show 2 ≤ _; decide)) ?_
    rw [key.1, key.2] <;> rfl
  refine r_seq (r_asg (e_call (a_cons (e_var rfl) (a_cons (e_var rfl) a_nil)) ⟨t, b, rfl, rfl⟩) ?_)
  refine r_seq (r_if (b_test (e_C0 (e_var rfl) e_int)) (fun h => ?_) (fun h => ?_))
  · refine r_asg (e_I0 e_int (e_var rfl)) (last _ ?_)
    rw [if_pos (of_decide_eq_true h)] <;> rfl
  · refine r_next (last _ ?_)
    rw [if_neg (of_decide_eq_false h)] <;> rfl
theorem cal_lowest {P : Program} {w : World} {K : PySem.W.Frag} {mg : Str → Option Value} {base : Heap} {C CR : Addr} (T : Tx K mg C CR) : CalX P w K mg base CX0 2 "lowest" (spD R_lowest) :=
  cal_of T.d_lowest sc_lowest bi_lowest (spD_len len_lowest) (d_lowest T) (pure_of run_lowest)

/-! #### value_through -/
abbrev ofN (l : List Nat) : List Int := l.map fun (i : Nat) => (i : Int)
def aboveM (l : List Int) (ps : List Nat) (x p : Nat) : Int := (ps.filter fun o => decide (o ≠ p)).foldl (fun (a : Int) (o : Nat) => a * ((x : Int) - (o : Int))) (l.getD p 0)
def belowM (ps : List Nat) (p : Nat) : Int := (ps.filter fun o => decide (o ≠ p)).foldl (fun (a : Int) (o : Nat) => a * ((p : Int) - (o : Int))) 1
def termM (l : List Int) (ps : List Nat) (x p : Nat) : Rat := Rat.divInt (aboveM l ps x p) (belowM ps p)
def thrTo (l : List Int) (ps : List Nat) (x i : Nat) : Rat := ((ps.take i).map (termM l ps x)).foldl (· + ·) 0
/-- the value at x of the polynomial through the lines at ps -/
def thrM (l : List Int) (ps : List Nat) (x : Nat) : Rat := thrTo l ps x ps.length
theorem take_more {α : Type} {l : List α} {i : Nat} {x : α} (h : l[i]? = some x) : l.take (i + 1) = l.take i ++ [x] := by rw [List.take_succ, h] <;> rfl
theorem thrTo_succ {l : List Int} {ps : List Nat} {x i p : Nat} (h : ps[i]? = some p) : thrTo l ps x (i + 1) = thrTo l ps x i + termM l ps x p := by
  unfold thrTo
  rw [take_more h, List.map_append, List.foldl_append] <;> rfl
theorem fold_ne {f : Nat → Int} : ∀ (l : List Nat) (a : Int), a ≠ 0 → (∀ o ∈ l, f o ≠ 0) → l.foldl (fun a o => a * f o) a ≠ 0
  | [], _, h, _ => h
  | o :: l, a, h, hf => fold_ne l _ (Int.mul_ne_zero h (hf o List.mem_cons_self)) fun o' ho => hf o' (List.mem_cons_of_mem _ ho)
theorem fold_lt {f : Nat → Int} {b : Nat} : ∀ (l : List Nat) (a : Int) (n : Nat), a.natAbs < 2 ^ n → (∀ o ∈ l, (f o).natAbs < 2 ^ b) → (l.foldl (fun a o => a * f o) a).natAbs < 2 ^ (n + b * l.length)
  | [], _, n, h, _ => by rw [List.length_nil, Nat.mul_zero, Nat.add_zero]; exact h
  | o :: l, a, n, h, hf => by
    have h1 : (a * f o).natAbs < 2 ^ (n + b) := by
      rw [Int.natAbs_mul, Nat.pow_add]
      exact Nat.mul_lt_mul'' h (hf o List.mem_cons_self)
    have h2 := fold_lt l (a * f o) (n + b) h1 fun o' ho => hf o' (List.mem_cons_of_mem _ ho)
    rw [List.length_cons, Nat.mul_succ, show n + (b * l.length + b) = n + b + b * l.length by omega]
    exact h2
theorem below_ne (ps : List Nat) (p : Nat) : belowM ps p ≠ 0 := fold_ne _ _ (by decide) fun o ho => by
  have := of_decide_eq_true (List.mem_filter.mp ho).2
  omega
theorem pow_mono2 {a b : Nat} (h : a ≤ b) : 2 ^ a ≤ 2 ^ b := Nat.pow_le_pow_right (by decide) h
theorem below_lt {ps : List Nat} {p : Nat} (hp : p < 60) (hl : ps.length ≤ 7) (hps : ∀ o ∈ ps, o < 60) : (belowM ps p).natAbs < 2 ^ 43 := by
  have h := fold_lt (f := fun o => (p : Int) - (o : Int)) (b := 6) (ps.filter fun o => decide (o ≠ p)) 1 1 (by decide) fun o ho => by
    have := hps o (List.mem_filter.mp ho).1
    have e : (2 : Nat) ^ 6 = 64 := by decide
    show ((p : Int) - (o : Int)).natAbs < 2 ^ 6
    omega
  have hf := List.length_filter_le (fun o => decide (o ≠ p)) ps
  exact Nat.lt_of_lt_of_le h (pow_mono2 (by omega))
theorem above_lt {l : List Int} {ps : List Nat} {x p : Nat} (hb : ∀ a ∈ l, a.natAbs < 2 ^ 110) (hx : x < 60) (hl : ps.length ≤ 7) (hps : ∀ o ∈ ps, o < 60) : (aboveM l ps x p).natAbs < 2 ^ 160 := by
  have h0 : (l.getD p 0).natAbs < 2 ^ 110 := by
    rw [List.getD_eq_getElem?_getD]
    cases e : l[p]? with
    | none => show (0 : Int).natAbs < 2 ^ 110; decide
    | some a => exact hb a (List.mem_of_getElem? e)
  have h := fold_lt (f := fun o => (x : Int) - (o : Int)) (b := 6) (ps.filter fun o => decide (o ≠ p)) (l.getD p 0) 110 h0 fun o ho => by
    have := hps o (List.mem_filter.mp ho).1
    have e : (2 : Nat) ^ 6 = 64 := by decide
    show ((x : Int) - (o : Int)).natAbs < 2 ^ 6
    omega
  have hf := List.length_filter_le (fun o => decide (o ≠ p)) ps
  exact Nat.lt_of_lt_of_le h (pow_mono2 (by omega))
theorem low_step (q : Rat) {a b : Int} (hb : b ≠ 0) : Rat.divInt (q.num * b + a * (q.den : Int)) ((q.den : Int) * b) = q + Rat.divInt a b := by
  have hd : (q.den : Int) ≠ 0 := by have := q.den_nz; omega
  have := Rat.divInt_add_divInt q.num a hd hb
  rw [Rat.num_divInt_den] at this
  exact this.symm
theorem den_le {a b : Int} (hb : b ≠ 0) : (Rat.divInt a b).den ≤ b.natAbs := by
  rw [Rat.den_divInt, if_neg hb]
  exact Nat.div_le_self _ _
theorem num_le {a b : Int} (hb : b ≠ 0) : (Rat.divInt a b).num.natAbs ≤ a.natAbs := by
  rw [Rat.num_divInt]
  have hg : 0 < b.gcd a := by
    rcases Nat.eq_zero_or_pos (b.gcd a) with h | h
    · exact absurd (Int.gcd_eq_zero_iff.mp h).1 hb
    · exact h
  refine Nat.le_trans (ediv_natAbs_le _ (by omega)) ?_
  rw [Int.natAbs_mul]
  have : b.sign.natAbs ≤ 1 := by
    rcases Int.lt_trichotomy b 0 with h | h | h
    · rw [Int.sign_eq_neg_one_of_neg h]; decide
    · exact absurd h hb
    · rw [Int.sign_eq_one_of_pos h]; decide
  calc b.sign.natAbs * a.natAbs ≤ 1 * a.natAbs := Nat.mul_le_mul_right _ this
    _ = a.natAbs := Nat.one_mul _
theorem thr_den {l : List Int} {ps : List Nat} {x : Nat} (hl : ps.length ≤ 7) (hps : ∀ o ∈ ps, o < 60) : ∀ i, i ≤ ps.length → (thrTo l ps x i).den < 2 ^ (43 * i + 1)
  | 0, _ => by
    show (0 : Rat).den < 2 ^ 1
    decide
  | i + 1, hi => by
    have ih := thr_den (l := l) (x := x) hl hps i (by omega)
    obtain ⟨p, hp⟩ : ∃ p, ps[i]? = some p := ⟨ps[i], List.getElem?_eq_getElem (by omega)⟩
    have hb := below_lt (hps p (List.mem_of_getElem? hp)) hl hps
    rw [thrTo_succ hp]
    unfold termM
    rw [← low_step _ (below_ne ps p)]
    have hd : ((thrTo l ps x i).den : Int) * belowM ps p ≠ 0 := Int.mul_ne_zero (by have := (thrTo l ps x i).den_nz; omega) (below_ne ps p)
    refine Nat.lt_of_le_of_lt (den_le hd) ?_
    rw [Int.natAbs_mul, show 43 * (i + 1) + 1 = (43 * i + 1) + 43 by omega, Nat.pow_add]
    exact Nat.mul_lt_mul'' ih hb
def R_value_through (ds : List PyData) (d : PyData) : Prop := ∃ (l : List Int) (ps : List Nat) (x : Nat), ds = [dI l, dI (ofN ps), .int (x : Int)] ∧ l.length ≤ 60 ∧ (∀ a ∈ l, a.natAbs < 2 ^ 110) ∧ ps.length ≤ 7 ∧ (∀ o ∈ ps, o < l.length) ∧ x < 60 ∧ d = fr (thrM l ps x)
theorem len_value_through : ∀ ds d, R_value_through ds d → ds.length = 3 := fun _ _ ⟨_, _, _, h, _⟩ => by rw [h] <;> rfl
theorem ofN_get {l : List Nat} {i : Nat} {d : PyData} (h : (nI (ofN l))[i]? = some d) : ∃ z, l[i]? = some z ∧ d = .int (z : Int) := by
  obtain ⟨z, hz, rfl⟩ := nI_get h
  have h' : (List.map (fun (i : Nat) => (i : Int)) l)[i]? = some z := hz
  rw [List.getElem?_map] at h'
  cases e : l[i]? with
  | none => rw [e] at h'; cases h'
  | some n =>
    rw [e] at h'
    exact ⟨n, rfl, by rw [← Option.some.inj h']⟩
/-- one more of a filtered fold -/
theorem filt_fold {ps : List Nat} {i o p : Nat} {f : Nat → Int} {a : Int} (h : ps[i]? = some o) : ((ps.take (i + 1)).filter fun o => decide (o ≠ p)).foldl (fun (a : Int) o => a * f o) a = if o ≠ p then ((ps.take i).filter fun o => decide (o ≠ p)).foldl (fun (a : Int) o => a * f o) a * f o else ((ps.take i).filter fun o => decide (o ≠ p)).foldl (fun (a : Int) o => a * f o) a := by
  rw [take_more h, List.filter_append, List.foldl_append, List.filter_cons]
  by_cases e : o = p
  · rw [if_neg (by simp [e]), if_neg (by simp [e])] <;> rfl
  · rw [if_pos (by simp [e]), if_pos e] <;> rfl
abbrev s_value_through : Stmt := top 24
abbrev N_value_through : List Str := ["lines", "places", "x", "top", "bottom", "one", "above", "below", "other"]
theorem sc_value_through : FnScope N_value_through ["lines", "places", "x"] (defScope s_value_through) := C8.fnScope_by (by decide +kernel)
theorem bi_value_through : BindsAt "value_through" s_value_through ["lines", "places", "x"] := fun _ _ _ _ _ _ us hl => match us, hl with | [_, _, _], _ => rfl
def t_value_through (K : PySem.W.Frag) : TS :=
  (tSeq (tAsg (tC (.int 0)) (gName 3))
    (tSeq (tAsg (tC (.int 1)) (gName 4))
    (tSeq (tFor (iList K (tVar 1)) (gName 5) (tSeq (tAsg (tOp (rIxL K) (tVar 0) (tVar 5)) (gName 6))
    (tSeq (tAsg (tC (.int 1)) (gName 7))
    (tSeq (tFor (iList K (tVar 1)) (gName 8) (tIfS (tTest (tOp rNe (tVar 8) (tVar 5))) (tSeq (tAsg (tOp (rI CMul fun i j => .int (i * j)) (tVar 6) (tOp (rI0 fun i j => .int (i - j)) (tVar 2) (tVar 8))) (gName 6))
    (tAsg (tOp (rI CMul fun i j => .int (i * j)) (tVar 7) (tOp (rI0 fun i j => .int (i - j)) (tVar 5) (tVar 8))) (gName 7))) tNext))
    (tAsg (tCall (spD R_lowest) [] E0 (tCons (tOp (rI0 fun i j => .int (i + j)) (tOp (rI CMul fun i j => .int (i * j)) (tVar 3) (tVar 7)) (tOp (rI CMulW fun i j => .int (i * j)) (tVar 6) (tVar 4))) (tCons (tOp (rI CMul fun i j => .int (i * j)) (tVar 4) (tVar 7)) tNil))) (gTup K 2 (gCons (gName 3) (gCons (gName 4) gNil))))))))
    (tRet (tTup (tCons (tVar 3) (tCons (tVar 4) tNil)))))))
theorem d_value_through {P : Program} {w : World} {K : PySem.W.Frag} {mg : Str → Option Value} {base : Heap} {C CR : Addr} (T : Tx K mg C CR) (f : Addr) (cdv : Value) (A : Around) (outer : List Env) (s : Shared) (H : Hp) (E : XK) (hr : Room 2 (A.deeper (envOfC "value_through" (defScope s_value_through) s.heap.objs.size f cdv))) :
    PSs (cxOf CX0 P w K mg base N_value_through "value_through" (defScope s_value_through) f cdv A outer s H E).nox (defBody s_value_through) (t_value_through K) :=
  (pss_cons (ps_set (i := 3) sc_value_through.nd rfl (Or.inl rfl) pe_int)
    (pss_cons (ps_set (i := 4) sc_value_through.nd rfl (Or.inl rfl) pe_int)
    (pss_cons (ps_for PassesOwn.never rfl (pi_list (pv 1)) (pg_name (i := 5) sc_value_through.nd rfl (Or.inl rfl)) (pss_cons (ps_set (i := 6) sc_value_through.nd rfl (Or.inl rfl) (pe_ix ix_list (pv 0) (pv 5) (fun _ _ => rfl)))
    (pss_cons (ps_set (i := 7) sc_value_through.nd rfl (Or.inl rfl) pe_int)
    (pss_cons (ps_for PassesOwn.never rfl (pi_list (pv 1)) (pg_name (i := 8) sc_value_through.nd rfl (Or.inl rfl)) (pss_one (ps_if (pt_cmpR op_ne (pv 8) (pv 5) (nomark _)) (pss_cons (ps_set (i := 6) sc_value_through.nd rfl (Or.inl rfl) (pe_op op_mul (pv 6) (pe_op op_sub (pv 2) (pv 8))))
    (pss_one (ps_set (i := 7) sc_value_through.nd rfl (Or.inl rfl) (pe_op op_mul (pv 7) (pe_op op_sub (pv 5) (pv 8)))))) pss_nil)))
    (pss_one (ps_asg (pe_cal (cal_lowest T) hr (by decide) (by rfl) (pa_cons (pe_op op_add (pe_op op_mul (pv 3) (pv 7)) (pe_op op_mulW (pv 6) (pv 4))) (pa_cons (pe_op op_mul (pv 4) (pv 7)) pa_nil))) (pg_tup rfl (pgs_cons (pg_name (i := 3) sc_value_through.nd rfl (Or.inl rfl)) (pgs_cons (pg_name (i := 4) sc_value_through.nd rfl (Or.inl rfl)) pgs_nil)))))))))
    (pss_one (ps_ret (pe_tup (pa_cons (pv 3) (pa_cons (pv 4) pa_nil))))))))
theorem run_value_through {K : PySem.W.Frag} (c : Cc) (ds : List PyData) (d : PyData) (ha : c.a = none) (h : R_value_through ds d) : Rn c (t_value_through K) (entry N_value_through ds) m0 (fun _ _ => d = .none) (fun d' _ => d' = d) := by
  obtain ⟨l, ps, x, rfl, hl, hb, hpl, hps, hx, rfl⟩ := h
  have hps' : ∀ o ∈ ps, o < 60 := fun o ho => by have := hps o ho; omega
  refine r_seq (r_asg e_int ?_)
  refine r_seq (r_asg e_int ?_)
  refine r_seq (r_forL (e_var rfl) (fun i => [.val (dI l), .val (dI (ofN ps)), .val (.int (x : Int)), .val (.int (thrTo l ps x i).num), .val (.int ((thrTo l ps x i).den : Int)), .no, .no, .no, .no]) (fun _ => m0) (fun _ => True)
    ⟨.inr rfl, .inr rfl, .inr rfl, .inr rfl, .inr rfl, .inl rfl, .inl rfl, .inl rfl, .inl rfl, trivial⟩ rfl trivial (fun B i d hi _ => ?_) (fun _ => ?_))
  · obtain ⟨p, hp, rfl⟩ := ofN_get hi
    have hpm := hps p (List.mem_of_getElem? hp)
    have hil : i < ps.length := (List.getElem?_eq_some_iff.mp hp).1
    refine r_seq (r_asg (e_ixI (e_var rfl).q (e_var rfl) (by omega) (by omega)) ?_)
    refine r_seq (r_asg e_int ?_)
    refine r_seq (r_forL (e_var rfl) (fun j => [.val (dI l), .val (dI (ofN ps)), .val (.int (x : Int)), .val (.int (thrTo l ps x i).num), .val (.int ((thrTo l ps x i).den : Int)), .val (.int (p : Int)),
        .val (.int (((ps.take j).filter fun o => decide (o ≠ p)).foldl (fun (a : Int) (o : Nat) => a * ((x : Int) - (o : Int))) (l.getD p 0))), .val (.int (((ps.take j).filter fun o => decide (o ≠ p)).foldl (fun (a : Int) (o : Nat) => a * ((p : Int) - (o : Int))) 1)), .no]) (fun _ => m0) (fun _ => True)
      ⟨.inr rfl, .inr rfl, .inr rfl, .inr rfl, .inr rfl, .inr rfl, .inr ?_, .inr rfl, .inl rfl, trivial⟩ rfl trivial (fun B' j d hj _ => ?_) (fun _ => ?_))
    · show SD.val (.int (l.getD (p : Int).toNat 0)) = _
      rw [Int.toNat_natCast] <;> rfl
    · obtain ⟨o, ho, rfl⟩ := ofN_get hj
      have hom := hps o (List.mem_of_getElem? ho)
      refine r_if (b_test (e_neI (e_var rfl) (e_var rfl))) (fun hne => ?_) (fun heq => ?_)
      · have hne : o ≠ p := by
          have : (o : Int) ≠ (p : Int) := by simpa using hne
          omega
        refine r_seq (r_asg (e_I (e_var rfl) (e_I0 (e_var rfl) (e_var rfl)) (.inr ⟨by omega, by omega⟩)) ?_)
        refine r_asg (e_I (e_var rfl) (e_I0 (e_var rfl) (e_var rfl)) (.inr ⟨by omega, by omega⟩)) ⟨⟨.inr rfl, .inr rfl, .inr rfl, .inr rfl, .inr rfl, .inr rfl, .inr ?_, .inr ?_, .inl rfl, trivial⟩, rfl, trivial⟩
        · rw [filt_fold (f := fun o => (x : Int) - (o : Int)) ho, if_pos hne] <;> rfl
        · rw [filt_fold (f := fun o => (p : Int) - (o : Int)) ho, if_pos hne] <;> rfl
      · have heq : o = p := by
          have : (o : Int) = (p : Int) := by simpa using heq
          omega
        refine r_next ⟨⟨.inr rfl, .inr rfl, .inr rfl, .inr rfl, .inr rfl, .inr rfl, .inr ?_, .inr ?_, .inl rfl, trivial⟩, rfl, trivial⟩
        · rw [filt_fold (f := fun o => (x : Int) - (o : Int)) ho, if_neg (by simp [heq])] <;> rfl
        · rw [filt_fold (f := fun o => (p : Int) - (o : Int)) ho, if_neg (by simp [heq])] <;> rfl
    · rw [List.length_map, List.length_map, List.take_length]
      have ha' : (aboveM l ps x p).natAbs < 2 ^ 160 := above_lt hb hx hpl hps'
      have hbl : (belowM ps p).natAbs < 2 ^ 43 := below_lt (hps' p (List.mem_of_getElem? hp)) hpl hps'
      have hbn := below_ne ps p
      have hden := thr_den (l := l) (x := x) hpl hps' i (by omega)
      have hden0 := (thrTo l ps x i).den_nz
      have e43 : (2 : Nat) ^ 43 = 8796093022208 := by decide
      have hsm : -(2 ^ 64) < belowM ps p ∧ belowM ps p < 2 ^ 64 := ⟨by omega, by omega⟩
      have hd : ((thrTo l ps x i).den : Int) * belowM ps p ≠ 0 := Int.mul_ne_zero (by omega) hbn
      show Rn _ _ [SD.val (dI l), .val (dI (ofN ps)), .val (.int (x : Int)), .val (.int (thrTo l ps x i).num), .val (.int ((thrTo l ps x i).den : Int)), .val (.int (p : Int)), .val (.int (aboveM l ps x p)), .val (.int (belowM ps p)), .no] _ _ _
      refine r_asg2 (e_call (a_cons (e_I0 (e_I (e_var rfl) (e_var rfl) (.inr hsm)) (e_I (e_var rfl) (e_var rfl) (wide_mul ha' (b := 43 * i + 1) (by rw [Int.natAbs_natCast]; exact hden) (by decide) (by omega) (by omega)))) (a_cons (e_I (e_var rfl) (e_var rfl) (.inr hsm)) a_nil)) ⟨_, _, rfl, hd, ?_, rfl⟩)
        ⟨⟨.inr rfl, .inr rfl, .inr rfl, .inr ?_, .inr ?_, .inl rfl, .inl rfl, .inl rfl, .inl rfl, trivial⟩, rfl, trivial⟩
      · rw [Int.natAbs_mul, Int.natAbs_natCast]
        refine Nat.lt_of_lt_of_le (Nat.mul_lt_mul'' hden hbl) ?_
        rw [← Nat.pow_add]
        exact pow_mono2 (by omega)
      · rw [low_step _ hbn, thrTo_succ hp] <;> rfl
      · rw [low_step _ hbn, thrTo_succ hp] <;> rfl
  · refine r_ret (e_tup (a_cons (e_var rfl) (a_cons (e_var rfl) a_nil)) (by show 2 ≤ _; decide)) ?_
    rw [List.length_map, List.length_map] <;> rfl
theorem cal_value_through {P : Program} {w : World} {K : PySem.W.Frag} {mg : Str → Option Value} {base : Heap} {C CR : Addr} (T : Tx K mg C CR) : CalX P w K mg base CX0 3 "value_through" (spD R_value_through) :=
  cal_of T.d_value_through sc_value_through bi_value_through (spD_len len_value_through) (d_value_through T) (pure_of run_value_through)

/-! #### sums -/
/-- each line's sign and choices -/
def wM (n : Nat) : Nat → Int
  | 0 => 1
  | i + 1 => 0 - wM n i * ((n : Int) - ((i : Int) + 1)) / ((i : Int) + 1)
theorem wM_lt {n : Nat} (hn : n ≤ 60) : ∀ i, i < n → (wM n i).natAbs < 2 ^ (6 * i + 1)
  | 0, _ => by show (1 : Int).natAbs < 2 ^ 1; decide
  | i + 1, hi => by
    have ih := wM_lt hn i (by omega)
    have h1 := ediv_natAbs_le (wM n i * ((n : Int) - ((i : Int) + 1))) (show (0 : Int) < (i : Int) + 1 by omega)
    have h2 : ((n : Int) - ((i : Int) + 1)).natAbs < 2 ^ 6 := by
      have : (2 : Nat) ^ 6 = 64 := by decide
      omega
    have h3 : (wM n i * ((n : Int) - ((i : Int) + 1))).natAbs < 2 ^ (6 * (i + 1) + 1) := by
      rw [Int.natAbs_mul, show 6 * (i + 1) + 1 = (6 * i + 1) + 6 by omega, Nat.pow_add]
      exact Nat.mul_lt_mul'' ih h2
    show (0 - wM n i * ((n : Int) - ((i : Int) + 1)) / ((i : Int) + 1)).natAbs < _
    omega
def partsM (l : List Int) (t : Nat) : List Int := (List.range l.length).map fun i => wM l.length i * l.getD i 0 * (i : Int) ^ t
/-- the sums -/
def sumsM (l : List Int) (many : Nat) : List Int := (List.range many).map fun t => (partsM l t).sum
def R_sums (ds : List PyData) (d : PyData) : Prop := ∃ (l : List Int) (many : Nat), ds = [dI l, .int (many : Int)] ∧ 0 < l.length ∧ l.length ≤ 60 ∧ (∀ a ∈ l, a.natAbs < 2 ^ 110) ∧ many ≤ 60 ∧ d = dI (sumsM l many)
theorem len_sums : ∀ ds d, R_sums ds d → ds.length = 2 := fun _ _ ⟨_, _, h, _⟩ => by rw [h] <;> rfl
theorem zip_range {l : List Int} {n : Nat} (hn : n = l.length) {f : Nat → Int} {g : Int → Int → Int} : (((List.range n).map f).zip l).map (fun p => g p.1 p.2) = (List.range n).map fun i => g (f i) (l.getD i 0) := by
  subst hn
  refine List.ext_getElem? fun j => ?_
  by_cases h : j < l.length
  · have e1 : (((List.range l.length).map f).zip l)[j]? = some (f j, l.getD j 0) := by
      rw [List.getElem?_zip_eq_some]
      rw [List.getElem?_map, List.getElem?_range h, List.getD_eq_getElem?_getD, List.getElem?_eq_getElem h]
      exact ⟨rfl, rfl⟩
    rw [List.getElem?_map, e1, List.getElem?_map, List.getElem?_range h] <;> rfl
  · rw [List.getElem?_eq_none (by rw [List.length_map, List.length_zip]; omega), List.getElem?_eq_none (by rw [List.length_map, List.length_range]; omega)]
theorem zipIdx_range {n : Nat} {f : Nat → Int} {g : Nat → Int → Int} : ((nI ((List.range n).map f)).zipIdx.filter fun _ => true).map (fun p => PyData.int (g p.2 (toI p.1))) = nI ((List.range n).map fun i => g i (f i)) := by
  rw [filt_true]
  refine List.ext_getElem? fun j => ?_
  show (List.map _ (List.zipIdx (List.map PyData.int (List.map f (List.range n)))))[j]? = (List.map PyData.int (List.map _ (List.range n)))[j]?
  by_cases h : j < n
  · rw [List.getElem?_map, List.getElem?_zipIdx, List.getElem?_map, List.getElem?_map, List.getElem?_range h, List.getElem?_map, List.getElem?_map, List.getElem?_range h]
    show some (PyData.int (g (0 + j) (f j))) = _
    rw [Nat.zero_add] <;> rfl
  · rw [List.getElem?_eq_none (by rw [List.length_map, List.length_zipIdx, List.length_map, List.length_map, List.length_range]; omega), List.getElem?_eq_none (by rw [List.length_map, List.length_map, List.length_range]; omega)]
abbrev s_sums : Stmt := top 25
abbrev N_sums : List Str := ["lines", "many", "weights", "i", "found", "parts", "weight", "line", "turn", "part"]
theorem sc_sums : FnScope N_sums ["lines", "many"] (defScope s_sums) := C8.fnScope_by (by decide +kernel)
theorem bi_sums : BindsAt "sums" s_sums ["lines", "many"] := fun _ _ _ _ _ _ us hl => match us, hl with | [_, _], _ => rfl
def t_sums (K : PySem.W.Frag) : TS :=
  (tSeq (tAsg (tLst (tCons (tC (.int 1)) tNil)) (gName 2))
    (tSeq (tFor (iRng2 (tCons (tC (.int 1)) (tCons (tCB (rLenS K) (tCons (tVar 0) tNil)) tNil))) (gName 3) (tDrop (tBM K "list" rAppend (tVar 2) (tCons (tOp (rI0 fun i j => .int (i - j)) (tC (.int 0)) (tOp (rI CDiv fun i j => .int (i / j)) (tOp (rI CMul fun i j => .int (i * j)) (tOp (rIxL K) (tVar 2) (tUn (rU fun i => .int (-i)) (tC (.int 1)))) (tOp (rI0 fun i j => .int (i - j)) (tCB (rLenS K) (tCons (tVar 0) tNil)) (tVar 3))) (tVar 3))) tNil))))
    (tSeq (tAsg (tLst tNil) (gName 4))
    (tSeq (tAsg (tLc (iZip K (tCons (tVar 2) (tCons (tVar 0) tNil))) (gTup K 2 (gCons (gName 6) (gCons (gName 7) gNil))) tYes (tOp (rI CMulW fun i j => .int (i * j)) (tVar 6) (tVar 7)) [6, 7]) (gName 5))
    (tSeq (tFor (iRng1 (tCons (tVar 1) tNil)) (gName 8) (tSeq (tDrop (tBM K "list" rAppend (tVar 4) (tCons (tCB (rSum K) (tCons (tVar 5) tNil)) tNil)))
    (tAsg (tLc (iEnum K (tCons (tVar 5) tNil)) (gTup K 2 (gCons (gName 3) (gCons (gName 9) gNil))) tYes (tOp (rI CMul fun i j => .int (i * j)) (tVar 3) (tVar 9)) [3, 9]) (gName 5))))
    (tRet (tVar 4)))))))
theorem d_sums {P : Program} {w : World} {K : PySem.W.Frag} {mg : Str → Option Value} {base : Heap} {C CR : Addr} (T : Tx K mg C CR) (f : Addr) (cdv : Value) (A : Around) (outer : List Env) (s : Shared) (H : Hp) (E : XK) (hr : Room 0 (A.deeper (envOfC "sums" (defScope s_sums) s.heap.objs.size f cdv))) :
    PSs (cxOf CX0 P w K mg base N_sums "sums" (defScope s_sums) f cdv A outer s H E).nox (defBody s_sums) (t_sums K) :=
  (pss_cons (ps_set (i := 2) sc_sums.nd rfl (Or.inl rfl) (pe_lst (pa_cons pe_int pa_nil)))
    (pss_cons (ps_for PassesOwn.never rfl (pi_range2 (by rfl) T.b_range (pa_cons pe_int (pa_cons (pe_callB call_len_seq (by rfl) T.b_len PySem.boot_len (pa_cons (pv 0) pa_nil)) pa_nil))) (pg_name (i := 3) sc_sums.nd rfl (Or.inl rfl)) (pss_one (ps_expr (pe_bm PySem.F.plainAttrs_list PySem.F.slot_list_append PySem.F.type_list_append mt_append (pv 2) (pa_cons (pe_op op_sub pe_int (pe_op op_fdiv (pe_op op_mul (pe_ix ix_list (pv 2) (pe_un un_neg pe_int) (fun _ _ => rfl)) (pe_op op_sub (pe_callB call_len_seq (by rfl) T.b_len PySem.boot_len (pa_cons (pv 0) pa_nil)) (pv 3))) (pv 3))) pa_nil)))))
    (pss_cons (ps_set (i := 4) sc_sums.nd rfl (Or.inl rfl) (pe_lst pa_nil))
    (pss_cons (ps_setLc (i := 5) (own := [("weight", 6), ("line", 7)]) rfl sc_sums.nd rfl rfl (sw_true rfl rfl rfl (by decide +kernel)) (pi_zip (by rfl) T.b_zip (pa_cons (pv 2) (pa_cons (pv 0) pa_nil))) (blkOk_by (own := [("weight", 6), ("line", 7)]) (N := N_sums) (sc := defScope s_sums) (by decide +kernel)) (fun _ _ _ _ _ => (pg_tup rfl (pgs_cons (pg_name (i := 6) sc_sums.nd rfl (Or.inl rfl)) (pgs_cons (pg_name (i := 7) sc_sums.nd rfl (Or.inl rfl)) pgs_nil)))) (fun _ _ _ _ _ => pts_nil) (fun _ _ _ _ _ => (pe_op op_mulW (pv 6) (pv 7))))
    (pss_cons (ps_for PassesOwn.never rfl (pi_range1 (by rfl) T.b_range (pa_cons (pv 1) pa_nil)) (pg_name (i := 8) sc_sums.nd rfl (Or.inl rfl)) (pss_cons (ps_expr (pe_bm PySem.F.plainAttrs_list PySem.F.slot_list_append PySem.F.type_list_append mt_append (pv 4) (pa_cons (pe_callB (cr_sum rfl) (by rfl) T.b_sum PyProof.Rows.boot_sum (pa_cons (pv 5) pa_nil)) pa_nil)))
    (pss_one (ps_setLc (i := 5) (own := [("i", 3), ("part", 9)]) rfl sc_sums.nd rfl rfl (sw_true rfl rfl rfl (by decide +kernel)) (pi_enum (by rfl) T.b_enumerate (pa_cons (pv 5) pa_nil)) (blkOk_by (own := [("i", 3), ("part", 9)]) (N := N_sums) (sc := defScope s_sums) (by decide +kernel)) (fun _ _ _ _ _ => (pg_tup rfl (pgs_cons (pg_name (i := 3) sc_sums.nd rfl (Or.inl rfl)) (pgs_cons (pg_name (i := 9) sc_sums.nd rfl (Or.inl rfl)) pgs_nil)))) (fun _ _ _ _ _ => pts_nil) (fun _ _ _ _ _ => (pe_op op_mul (pv 3) (pv 9)))))))
    (pss_one (ps_ret (pv 4))))))))
theorem run_sums {K : PySem.W.Frag} (c : Cc) (ds : List PyData) (d : PyData) (ha : c.a = none) (h : R_sums ds d) : Rn c (t_sums K) (entry N_sums ds) m0 (fun _ _ => d = .none) (fun d' _ => d' = d) := by
  obtain ⟨l, many, rfl, hl0, hl, hb, hm, rfl⟩ := h
  refine r_seq (r_asgN (n_lst (a_cons e_int a_nil) (by decide)) ?_)
  refine r_seq (r_forR2 (a_cons e_int (a_cons (e_lenI (e_var rfl).q) a_nil)) ⟨by omega, by omega, by omega, by omega⟩ (fun i => [.val (dI l), .val (.int (many : Int)), .own (nI ((List.range (i + 1)).map (wM l.length))), .no, .no, .no, .no, .no, .no, .no]) (fun _ => m0) (fun _ => True)
    ⟨.inr rfl, .inr rfl, .inr rfl, .inl rfl, .inl rfl, .inl rfl, .inl rfl, .inl rfl, .inl rfl, .inl rfl, trivial⟩ rfl trivial (fun B i hi _ => ?_) (fun _ => ?_))
  · have hlast : (nI ((List.range (i + 1)).map (wM l.length)))[(nI ((List.range (i + 1)).map (wM l.length))).length - 1]? = some (.int (wM l.length i)) := by
      show (List.map PyData.int _)[(List.map PyData.int _).length - 1]? = _
      rw [List.length_map, List.length_map, List.length_range, Nat.add_sub_cancel, List.getElem?_map, List.getElem?_map, List.getElem?_range (by omega)] <;> rfl
    refine r_app rfl (e_I0 e_int (e_I (e_I (e_ixLast (q_var rfl) (e_neg e_int) hlast) (e_I0 (e_lenI (e_var rfl).q) (e_var rfl)) (.inr ⟨by omega, by omega⟩)) (e_var rfl) ⟨by omega, by omega⟩)) (by rw [List.length_map, List.length_map, List.length_range]; omega) ⟨⟨.inr rfl, .inr rfl, .inr ?_, .inl rfl, .inl rfl, .inl rfl, .inl rfl, .inl rfl, .inl rfl, .inl rfl, trivial⟩, rfl, trivial⟩
    rw [← nI_range_succ (wM l.length) (i + 1)]
    have e : wM l.length (i + 1) = 0 - wM l.length i * ((l.length : Int) - (1 + (i : Int))) / (1 + (i : Int)) := by
      show 0 - wM l.length i * ((l.length : Int) - ((i : Int) + 1)) / ((i : Int) + 1) = _
      rw [Int.add_comm (i : Int) 1]
    rw [e]
  · have e0 : ((l.length : Int) - 1).toNat + 1 = l.length := by omega
    rw [e0]
    refine r_plain (i := 2) rfl ?_
    refine r_seq (r_asgN (n_lst a_nil (by decide)) ?_)
    refine r_seq (r_asg ((n_lcZ0 (v := fun a b => a * b) (e_var rfl).q (e_var rfl).q (by rw [List.length_map, List.length_range]; omega) (by decide) (by decide) (fun p hp => ?_)).s.is (congrArg PyData.list (congrArg nI (zip_range rfl (f := wM l.length) (g := fun a b => a * b))))) ?_)
    · obtain ⟨h1, h2⟩ := List.of_mem_zip (show (p.1, p.2) ∈ _ from hp)
      obtain ⟨i, hi, he⟩ := List.mem_map.mp h1
      have hw := wM_lt hl i (List.mem_range.mp hi)
      rw [he] at hw
      have := List.mem_range.mp hi
      exact e_I (e_var rfl) (e_var rfl) (wide_mul (b := 110) hw (hb _ h2) (by omega) (by decide) (by omega))
    refine r_seq (r_forR (a_cons (e_var rfl) a_nil) (by omega) (by omega) (fun t => [.val (dI l), .val (.int (many : Int)), .no, .no, .own (nI ((List.range t).map fun t => (partsM l t).sum)), .val (dI (partsM l t)), .no, .no, .no, .no]) (fun _ => m0) (fun _ => True)
      ⟨.inr rfl, .inr rfl, .inl rfl, .inl rfl, .inr rfl, .inr ?_, .inl rfl, .inl rfl, .inl rfl, .inl rfl, trivial⟩ rfl trivial (fun B t ht _ => ?_) (fun _ => ?_))
    · have e1 : (List.range l.length).map (fun i => wM l.length i * l.getD i 0) = partsM l 0 := List.map_congr_left fun i _ => by rw [Int.pow_zero, Int.mul_one]
      show SD.val (dI ((List.range l.length).map fun i => wM l.length i * l.getD i 0)) = _
      rw [e1]
    · refine r_seq (r_app rfl (e_sum (e_var rfl).q) (by rw [List.length_map, List.length_map, List.length_range]; omega) ?_)
      refine r_asg ((n_lcE (f := fun _ _ => true) (v := fun i d => .int ((i : Int) * toI d)) (e_var rfl).q (by rw [List.length_map]; unfold partsM; rw [List.length_map, List.length_range]; omega) (by decide) (by decide) (fun _ _ _ => b_yes) (fun i d hi _ => ?_)).s)
        ⟨⟨.inr rfl, .inr rfl, .inl rfl, .inl rfl, .inr ?_, .inr ?_, .inl rfl, .inl rfl, .inl rfl, .inl rfl, trivial⟩, rfl, trivial⟩
      · obtain ⟨z, hz, rfl⟩ := nI_get hi
        have hil := (List.getElem?_eq_some_iff.mp hz).1
        unfold partsM at hil
        rw [List.length_map, List.length_range] at hil
        exact e_I (e_var rfl) (e_var rfl) (.inl ⟨by omega, by omega⟩)
      · rw [← nI_range_succ]
      · unfold partsM
        rw [zipIdx_range (g := fun i z => (i : Int) * z)]
        show SD.val (.list (nI _)) = SD.val (.list (nI _))
        congr 3
        refine List.map_congr_left fun i _ => ?_
        rw [Int.pow_succ, Int.mul_comm ((i : Int)), Int.mul_assoc]
    · refine r_retO rfl ?_
      rw [Int.toNat_natCast] <;> rfl
theorem cal_sums {P : Program} {w : World} {K : PySem.W.Frag} {mg : Str → Option Value} {base : Heap} {C CR : Addr} (T : Tx K mg C CR) : CalX P w K mg base CX0 1 "sums" (spD R_sums) :=
  cal_of T.d_sums sc_sums bi_sums (spD_len len_sums) (d_sums T) (pure_of run_sums)

/-! #### pivot_row -/
abbrev dR (rows : List (List Int)) : List PyData := rows.map dI
def ent (rows : List (List Int)) (i j : Nat) : Int := (rows.getD i []).getD j 0
def pivM (rows : List (List Int)) (at_ : Nat) : Int := match (List.range (rows.length - at_)).find? fun i => decide (ent rows (at_ + i) at_ ≠ 0) with
  | some i => ((at_ + i : Nat) : Int)
  | none => -1
def R_pivot_row (ds : List PyData) (d : PyData) : Prop := ∃ (rows : List (List Int)) (at_ : Nat), ds = [.list (dR rows), .int (at_ : Int)] ∧ rows.length ≤ 1000 ∧ at_ ≤ rows.length ∧ (∀ r ∈ rows, at_ < r.length) ∧ d = .int (pivM rows at_)
theorem len_pivot_row : ∀ ds d, R_pivot_row ds d → ds.length = 2 := fun _ _ ⟨_, _, h, _⟩ => by rw [h] <;> rfl
theorem dR_get {rows : List (List Int)} {i : Nat} (h : i < rows.length) : (dR rows)[i]? = some (dI (rows.getD i [])) := by
  show (List.map dI rows)[i]? = _
  rw [List.getElem?_map, List.getD_eq_getElem?_getD, List.getElem?_eq_getElem h] <;> rfl
theorem row_mem {rows : List (List Int)} {i : Nat} (h : i < rows.length) : rows.getD i [] ∈ rows := by
  rw [List.getD_eq_getElem?_getD, List.getElem?_eq_getElem h]
  exact List.getElem_mem h
abbrev s_pivot_row : Stmt := top 26
abbrev N_pivot_row : List Str := ["rows", "at", "place"]
theorem sc_pivot_row : FnScope N_pivot_row ["rows", "at"] (defScope s_pivot_row) := C8.fnScope_by (by decide +kernel)
theorem bi_pivot_row : BindsAt "pivot_row" s_pivot_row ["rows", "at"] := fun _ _ _ _ _ _ us hl => match us, hl with | [_, _], _ => rfl
def t_pivot_row (K : PySem.W.Frag) : TS :=
  (tSeq (tFor (iRng2 (tCons (tVar 1) (tCons (tCB (rLenS K) (tCons (tVar 0) tNil)) tNil))) (gName 2) (tIfS (tTest (tOp rNe (tOp (rIxL K) (tOp (rIxL K) (tVar 0) (tVar 2)) (tVar 1)) (tC (.int 0)))) (tRet (tVar 2)) tNext))
    (tRet (tUn (rU fun i => .int (-i)) (tC (.int 1)))))
theorem d_pivot_row {P : Program} {w : World} {K : PySem.W.Frag} {mg : Str → Option Value} {base : Heap} {C CR : Addr} (T : Tx K mg C CR) (f : Addr) (cdv : Value) (A : Around) (outer : List Env) (s : Shared) (H : Hp) (E : XK) (hr : Room 0 (A.deeper (envOfC "pivot_row" (defScope s_pivot_row) s.heap.objs.size f cdv))) :
    PSs (cxOf CX0 P w K mg base N_pivot_row "pivot_row" (defScope s_pivot_row) f cdv A outer s H E).nox (defBody s_pivot_row) (t_pivot_row K) :=
  (pss_cons (ps_for PassesOwn.never rfl (pi_range2 (by rfl) T.b_range (pa_cons (pv 1) (pa_cons (pe_callB call_len_seq (by rfl) T.b_len PySem.boot_len (pa_cons (pv 0) pa_nil)) pa_nil))) (pg_name (i := 2) sc_pivot_row.nd rfl (Or.inl rfl)) (pss_one (ps_if (pt_cmpR op_ne (pe_ix ix_list (pe_ix ix_list (pv 0) (pv 2) (fun _ _ => rfl)) (pv 1) (fun _ _ => rfl)) pe_int (nomark _)) (pss_one (ps_ret (pv 2))) pss_nil)))
    (pss_one (ps_ret (pe_un un_neg pe_int))))
theorem run_pivot_row {K : PySem.W.Frag} (c : Cc) (ds : List PyData) (d : PyData) (ha : c.a = none) (h : R_pivot_row ds d) : Rn c (t_pivot_row K) (entry N_pivot_row ds) m0 (fun _ _ => d = .none) (fun d' _ => d' = d) := by
  obtain ⟨rows, at_, rfl, hl, hat, hr, rfl⟩ := h
  refine r_seq (r_forR2 (a_cons (e_var rfl) (a_cons (e_len (e_var rfl).q) a_nil)) ⟨by omega, by omega, by rw [List.length_map]; omega, by rw [List.length_map]; omega⟩ (fun _ => [.val (.list (dR rows)), .val (.int (at_ : Int)), .no]) (fun _ => m0)
    (fun i => ∀ j, j < i → ent rows (at_ + j) at_ = 0)
    ⟨.inr rfl, .inr rfl, .inl rfl, trivial⟩ rfl (fun j hj => absurd hj (Nat.not_lt_zero _)) (fun B i hi hG => ?_) (fun hG => ?_))
  · rw [List.length_map] at hi
    have hi' : at_ + i < rows.length := by omega
    have hrow := hr _ (row_mem hi')
    have en : (((at_ : Int) + (i : Int))).toNat = at_ + i := by omega
    refine r_if (b_test (e_neI (e_ixI (e_ix (e_var rfl).q (e_var rfl) (by omega) (by rw [en]; exact dR_get hi')).q (e_var rfl) (by omega) (by omega)) e_int)) (fun hb => ?_) (fun hb => ?_)
    · rw [Int.toNat_natCast] at hb
      have hne : ent rows (at_ + i) at_ ≠ 0 := by
        have : ¬ (rows.getD (at_ + i) []).getD at_ 0 = 0 := by simpa using hb
        exact this
      refine r_ret (e_var rfl) ?_
      unfold pivM
      rw [find_at (i := i) (f := fun i => decide (ent rows (at_ + i) at_ ≠ 0)) (by omega) (decide_eq_true hne) fun j hj => decide_eq_false fun z => z (hG j hj)] <;> rfl
    · rw [Int.toNat_natCast] at hb
      have heq : ent rows (at_ + i) at_ = 0 := by
        have : (rows.getD (at_ + i) []).getD at_ 0 = 0 := by simpa using hb
        exact this
      refine r_next ⟨⟨.inr rfl, .inr rfl, .inl rfl, trivial⟩, rfl, fun j hj => ?_⟩
      rcases Nat.lt_or_ge j i with h | h
      · exact hG j h
      · have : j = i := by omega
        rw [this]
        exact heq
  · rw [List.length_map] at hG
    have en : ((rows.length : Int) - (at_ : Int)).toNat = rows.length - at_ := by omega
    rw [en] at hG
    refine r_ret (e_neg e_int) ?_
    unfold pivM
    rw [find_none (f := fun i => decide (ent rows (at_ + i) at_ ≠ 0)) fun j hj => decide_eq_false fun z => z (hG j hj)]
theorem cal_pivot_row {P : Program} {w : World} {K : PySem.W.Frag} {mg : Str → Option Value} {base : Heap} {C CR : Addr} (T : Tx K mg C CR) : CalX P w K mg base CX0 1 "pivot_row" (spD R_pivot_row) :=
  cal_of T.d_pivot_row sc_pivot_row bi_pivot_row (spD_len len_pivot_row) (d_pivot_row T) (pure_of run_pivot_row)

/-! #### cleared -/
def clrM (row by_ : List Int) (at_ : Nat) : List Int := (row.zip by_).map fun (p : Int × Int) => p.1 * by_.getD at_ 0 - p.2 * row.getD at_ 0
def R_cleared (ds : List PyData) (d : PyData) : Prop := ∃ (row by_ : List Int) (at_ : Nat), ds = [dI row, dI by_, .int (at_ : Int)] ∧ row.length ≤ 1000 ∧ at_ < row.length ∧ at_ < by_.length ∧ (∀ a ∈ row, a.natAbs < 2 ^ 9000) ∧ (∀ a ∈ by_, a.natAbs < 2 ^ 9000) ∧ d = dI (clrM row by_ at_)
theorem len_cleared : ∀ ds d, R_cleared ds d → ds.length = 3 := fun _ _ ⟨_, _, _, h, _⟩ => by rw [h] <;> rfl
abbrev s_cleared : Stmt := top 27
abbrev N_cleared : List Str := ["row", "by", "at", "one", "other"]
theorem sc_cleared : FnScope N_cleared ["row", "by", "at"] (defScope s_cleared) := C8.fnScope_by (by decide +kernel)
theorem bi_cleared : BindsAt "cleared" s_cleared ["row", "by", "at"] := fun _ _ _ _ _ _ us hl => match us, hl with | [_, _, _], _ => rfl
def t_cleared (K : PySem.W.Frag) : TS :=
  (tRet (tLc (iZip K (tCons (tVar 0) (tCons (tVar 1) tNil))) (gTup K 2 (gCons (gName 3) (gCons (gName 4) gNil))) tYes (tOp (rI0 fun i j => .int (i - j)) (tOp (rI CMulW fun i j => .int (i * j)) (tVar 3) (tOp (rIxL K) (tVar 1) (tVar 2))) (tOp (rI CMulW fun i j => .int (i * j)) (tVar 4) (tOp (rIxL K) (tVar 0) (tVar 2)))) [3, 4]))
theorem d_cleared {P : Program} {w : World} {K : PySem.W.Frag} {mg : Str → Option Value} {base : Heap} {C CR : Addr} (T : Tx K mg C CR) (f : Addr) (cdv : Value) (A : Around) (outer : List Env) (s : Shared) (H : Hp) (E : XK) (hr : Room 0 (A.deeper (envOfC "cleared" (defScope s_cleared) s.heap.objs.size f cdv))) :
    PSs (cxOf CX0 P w K mg base N_cleared "cleared" (defScope s_cleared) f cdv A outer s H E).nox (defBody s_cleared) (t_cleared K) :=
  (pss_one (ps_ret (pe_lc (own := [("one", 3), ("other", 4)]) rfl sc_cleared.nd (pi_zip (by rfl) T.b_zip (pa_cons (pv 0) (pa_cons (pv 1) pa_nil))) (blkOk_by (own := [("one", 3), ("other", 4)]) (N := N_cleared) (sc := defScope s_cleared) (by decide +kernel)) (fun _ _ _ _ _ => (pg_tup rfl (pgs_cons (pg_name (i := 3) sc_cleared.nd rfl (Or.inl rfl)) (pgs_cons (pg_name (i := 4) sc_cleared.nd rfl (Or.inl rfl)) pgs_nil)))) (fun _ _ _ _ _ => pts_nil) (fun _ _ _ _ _ => (pe_op op_sub (pe_op op_mulW (pv 3) (pe_ix ix_list (pv 1) (pv 2) (fun _ _ => rfl))) (pe_op op_mulW (pv 4) (pe_ix ix_list (pv 0) (pv 2) (fun _ _ => rfl))))))))
theorem run_cleared {K : PySem.W.Frag} (c : Cc) (ds : List PyData) (d : PyData) (ha : c.a = none) (h : R_cleared ds d) : Rn c (t_cleared K) (entry N_cleared ds) m0 (fun _ _ => d = .none) (fun d' _ => d' = d) := by
  obtain ⟨row, by_, at_, rfl, hl, h1, h2, hb1, hb2, rfl⟩ := h
  refine r_ret ((n_lcZ0 (v := fun a b => a * by_.getD at_ 0 - b * row.getD at_ 0) (e_var rfl).q (e_var rfl).q (by omega) (by decide) (by decide) (fun p hp => ?_)).s) rfl
  obtain ⟨m1, m2⟩ := List.of_mem_zip (show (p.1, p.2) ∈ _ from hp)
  have e1 := hb2 _ (getD_mem h2)
  have e2 := hb1 _ (getD_mem h1)
  have q1 : EvS c (tOp (rIxL K) (tVar 1) (tVar 2)) (((wipeT (entry N_cleared [dI row, dI by_, .int (at_ : Int)]) [3, 4]).set 3 (.val (.int p.1))).set 4 (.val (.int p.2))) m0 (.int (by_.getD at_ 0)) := (e_ixI (e_var rfl).q (e_var rfl) (by omega) (by omega)).is (by rw [Int.toNat_natCast])
  have q2 : EvS c (tOp (rIxL K) (tVar 0) (tVar 2)) (((wipeT (entry N_cleared [dI row, dI by_, .int (at_ : Int)]) [3, 4]).set 3 (.val (.int p.1))).set 4 (.val (.int p.2))) m0 (.int (row.getD at_ 0)) := (e_ixI (e_var rfl).q (e_var rfl) (by omega) (by omega)).is (by rw [Int.toNat_natCast])
  exact e_I0 (e_I (e_var rfl) q1 (wide_mul (hb1 _ m1) e1 (by decide) (by decide) (by decide))) (e_I (e_var rfl) q2 (wide_mul (hb2 _ m2) e2 (by decide) (by decide) (by decide)))
theorem cal_cleared {P : Program} {w : World} {K : PySem.W.Frag} {mg : Str → Option Value} {base : Heap} {C CR : Addr} (T : Tx K mg C CR) : CalX P w K mg base CX0 1 "cleared" (spD R_cleared) :=
  cal_of T.d_cleared sc_cleared bi_cleared (spD_len len_cleared) (d_cleared T) (pure_of run_cleared)

/-! #### reduced -/
def gcdM (row : List Int) : Nat := row.foldl (fun g a => Nat.gcd g a.natAbs) 0
def redM (row : List Int) : List Int := if gcdM row = 0 then row else row.map fun a => a / (gcdM row : Int)
theorem gcd_fold_dvd : ∀ (row : List Int) (g : Nat), (row.foldl (fun g a => Nat.gcd g a.natAbs) g) ∣ g ∧ ∀ a ∈ row, (row.foldl (fun g a => Nat.gcd g a.natAbs) g) ∣ a.natAbs
  | [], g => ⟨Nat.dvd_refl _, fun a h => absurd h (by simp)⟩
  | b :: row, g => by
    obtain ⟨h1, h2⟩ := gcd_fold_dvd row (Nat.gcd g b.natAbs)
    refine ⟨Nat.dvd_trans h1 (Nat.gcd_dvd_left _ _), fun a ha => ?_⟩
    rcases List.mem_cons.mp ha with rfl | ha
    · exact Nat.dvd_trans h1 (Nat.gcd_dvd_right _ _)
    · exact h2 a ha
theorem gcdM_dvd {row : List Int} {a : Int} (h : a ∈ row) : gcdM row ∣ a.natAbs := (gcd_fold_dvd row 0).2 a h
theorem gcd_fold_zero : ∀ (row : List Int) (g : Nat), (∀ a ∈ row, a = 0) → (row.foldl (fun g a => Nat.gcd g a.natAbs) g) = g
  | [], _, _ => rfl
  | b :: row, g, h => by
    have hb : b = 0 := h b List.mem_cons_self
    subst hb
    show (row.foldl (fun g a => Nat.gcd g a.natAbs) (Nat.gcd g 0)) = g
    rw [Nat.gcd_zero_right]
    exact gcd_fold_zero row g fun a ha => h a (List.mem_cons_of_mem _ ha)
theorem gcdM_lt {row : List Int} {b : Nat} (h : ∀ a ∈ row, a.natAbs < 2 ^ b) : gcdM row < 2 ^ b := by
  by_cases hz : ∀ a ∈ row, a = 0
  · rw [show gcdM row = 0 from gcd_fold_zero row 0 hz]
    exact Nat.pow_pos (by decide)
  · have : ∃ a, a ∈ row ∧ a ≠ 0 := Classical.byContradiction fun hn => hz fun a ha => Classical.byContradiction fun h0 => hn ⟨a, ha, h0⟩
    obtain ⟨a, ha, h0⟩ := this
    exact Nat.lt_of_le_of_lt (Nat.le_of_dvd (by omega) (gcdM_dvd ha)) (h a ha)
def R_reduced (ds : List PyData) (d : PyData) : Prop := ∃ (row : List Int), ds = [dI row] ∧ row.length ≤ 1000 ∧ (∀ a ∈ row, a.natAbs < 2 ^ 8999) ∧ d = dI (redM row)
theorem len_reduced : ∀ ds d, R_reduced ds d → ds.length = 1 := fun _ _ ⟨_, h, _⟩ => by rw [h] <;> rfl
abbrev s_reduced : Stmt := top 28
abbrev N_reduced : List Str := ["row", "part", "one"]
theorem sc_reduced : FnScope N_reduced ["row"] (defScope s_reduced) := C8.fnScope_by (by decide +kernel)
theorem bi_reduced : BindsAt "reduced" s_reduced ["row"] := fun _ _ _ _ _ _ us hl => match us, hl with | [_], _ => rfl
def t_reduced (K : PySem.W.Frag) : TS :=
  (tSeq (tAsg (tC (.int 0)) (gName 1))
    (tSeq (tFor (iList K (tVar 0)) (gName 2) (tAsg (tCall (spD R_common) [] E0 (tCons (tVar 1) (tCons (tVar 2) tNil))) (gName 1)))
    (tSeq (tIfS (tTest (tOp rEq (tVar 1) (tC (.int 0)))) (tRet (tVar 0)) tNext)
    (tRet (tLc (iList K (tVar 0)) (gName 2) tYes (tOp (rI CDivW fun i j => .int (i / j)) (tVar 2) (tVar 1)) [2])))))
theorem d_reduced {P : Program} {w : World} {K : PySem.W.Frag} {mg : Str → Option Value} {base : Heap} {C CR : Addr} (T : Tx K mg C CR) (f : Addr) (cdv : Value) (A : Around) (outer : List Env) (s : Shared) (H : Hp) (E : XK) (hr : Room 1 (A.deeper (envOfC "reduced" (defScope s_reduced) s.heap.objs.size f cdv))) :
    PSs (cxOf CX0 P w K mg base N_reduced "reduced" (defScope s_reduced) f cdv A outer s H E).nox (defBody s_reduced) (t_reduced K) :=
  (pss_cons (ps_set (i := 1) sc_reduced.nd rfl (Or.inr rfl) pe_int)
    (pss_cons (ps_for PassesOwn.never rfl (pi_list (pv 0)) (pg_name (i := 2) sc_reduced.nd rfl (Or.inl rfl)) (pss_one (ps_set (i := 1) sc_reduced.nd rfl (Or.inr rfl) (pe_cal (cal_common T) hr (by decide) (by rfl) (pa_cons (pv 1) (pa_cons (pv 2) pa_nil))))))
    (pss_cons (ps_if (pt_cmpR op_eq (pv 1) pe_int (nomark _)) (pss_one (ps_ret (pv 0))) pss_nil)
    (pss_one (ps_ret (pe_lc (own := [("one", 2)]) rfl sc_reduced.nd (pi_list (pv 0)) (blkOk_by (own := [("one", 2)]) (N := N_reduced) (sc := defScope s_reduced) (by decide +kernel)) (fun _ _ _ _ _ => (pg_name (i := 2) sc_reduced.nd rfl (Or.inl rfl))) (fun _ _ _ _ _ => pts_nil) (fun _ _ _ _ _ => (pe_op op_fdivW (pv 2) (pv 1)))))))))
theorem run_reduced {K : PySem.W.Frag} (c : Cc) (ds : List PyData) (d : PyData) (ha : c.a = none) (h : R_reduced ds d) : Rn c (t_reduced K) (entry N_reduced ds) m0 (fun _ _ => d = .none) (fun d' _ => d' = d) := by
  obtain ⟨row, rfl, hl, hb, rfl⟩ := h
  refine r_seq (r_asg e_int ?_)
  refine r_seq (r_forL (e_var rfl) (fun i => [.val (dI row), .val (.int (gcdM (row.take i) : Int)), .no]) (fun _ => m0) (fun _ => True)
    ⟨.inr rfl, .inr rfl, .inl rfl, trivial⟩ rfl trivial (fun B i d hi _ => ?_) (fun _ => ?_))
  · obtain ⟨z, hz, rfl⟩ := nI_get hi
    refine r_asg (e_call (a_cons (e_var rfl) (a_cons (e_var rfl) a_nil)) ⟨_, _, rfl, rfl⟩) ⟨⟨.inr rfl, .inr ?_, .inl rfl, trivial⟩, rfl, trivial⟩
    have e : gcdM (row.take (i + 1)) = Nat.gcd (gcdM (row.take i)) z.natAbs := by
      unfold gcdM
      rw [take_more hz, List.foldl_append] <;> rfl
    rw [e, Int.natAbs_natCast]
  · rw [List.length_map, List.take_length]
    refine r_seq (r_if (b_test (e_eqI (e_var rfl) e_int)) (fun hg => ?_) (fun hg => ?_))
    · have hg : gcdM row = 0 := by
        have : (gcdM row : Int) = 0 := of_decide_eq_true hg
        omega
      refine r_ret (e_var rfl) ?_
      unfold redM
      rw [if_pos hg]
    · have hg : gcdM row ≠ 0 := by
        have : ¬ (gcdM row : Int) = 0 := of_decide_eq_false hg
        omega
      refine r_next (r_ret ((n_lcL0 (v := fun a => a / (gcdM row : Int)) (e_var rfl).q (by omega) (by decide) (fun a _ => e_I (e_var rfl) (e_var rfl) (wide_div (by omega) (by rw [Int.natAbs_natCast]; exact gcdM_lt hb) (by decide) (by decide)))).s) ?_)
      unfold redM
      rw [if_neg hg]
theorem cal_reduced {P : Program} {w : World} {K : PySem.W.Frag} {mg : Str → Option Value} {base : Heap} {C CR : Addr} (T : Tx K mg C CR) : CalX P w K mg base CX0 2 "reduced" (spD R_reduced) :=
  cal_of T.d_reduced sc_reduced bi_reduced (spD_len len_reduced) (d_reduced T) (pure_of run_reduced)

/-! #### solved -/
/-! ### Gauss and Jordan over whole numbers, in plain Lean -/
theorem getD_map_range {f : Nat → Int} {n c : Nat} (h : c < n) : ((List.range n).map f).getD c 0 = f c := by
  rw [List.getD_eq_getElem?_getD, List.getElem?_map, List.getElem?_range h] <;> rfl
theorem clrM_len (row by_ : List Int) (t : Nat) (h : row.length = by_.length) : (clrM row by_ t).length = row.length := by
  unfold clrM
  rw [List.length_map, List.length_zip, h, Nat.min_self]
theorem clrM_get {row by_ : List Int} {t c : Nat} (h : row.length = by_.length) (hc : c < row.length) : (clrM row by_ t).getD c 0 = row.getD c 0 * by_.getD t 0 - by_.getD c 0 * row.getD t 0 := by
  have e : (row.zip by_)[c]? = some (row.getD c 0, by_.getD c 0) := by
    rw [List.getElem?_zip_eq_some, List.getD_eq_getElem?_getD, List.getD_eq_getElem?_getD, List.getElem?_eq_getElem hc, List.getElem?_eq_getElem (by omega)]
    exact ⟨rfl, rfl⟩
  unfold clrM
  rw [List.getD_eq_getElem?_getD (l := List.map _ _), List.getElem?_map, e] <;> rfl
theorem redM_len (row : List Int) : (redM row).length = row.length := by
  unfold redM
  split
  · rfl
  · rw [List.length_map]
/-- what reduced leaves: the row is its result times a number that isn't 0 -/
theorem redM_get (row : List Int) : ∃ g : Int, g ≠ 0 ∧ ∀ c, row.getD c 0 = g * (redM row).getD c 0 := by
  unfold redM
  by_cases h : gcdM row = 0
  · rw [if_pos h]
    exact ⟨1, by decide, fun c => (Int.one_mul _).symm⟩
  · rw [if_neg h]
    refine ⟨(gcdM row : Int), by omega, fun c => ?_⟩
    rw [List.getD_eq_getElem?_getD, List.getD_eq_getElem?_getD, List.getElem?_map]
    cases e : row[c]? with
    | none => exact (Int.mul_zero _).symm
    | some a =>
      have hd : ((gcdM row : Nat) : Int) ∣ a := Int.ofNat_dvd_left.mpr (gcdM_dvd (List.mem_of_getElem? e))
      exact (Int.mul_ediv_cancel' hd).symm
theorem redM_lt {row : List Int} {b : Nat} (h : ∀ a ∈ row, a.natAbs < 2 ^ b) : ∀ a ∈ redM row, a.natAbs < 2 ^ b := by
  unfold redM
  by_cases hz : gcdM row = 0
  · rw [if_pos hz]
    exact h
  · rw [if_neg hz]
    intro a ha
    obtain ⟨z, hz', rfl⟩ := List.mem_map.mp ha
    exact Nat.lt_of_le_of_lt (ediv_natAbs_le z (by omega)) (h z hz')
theorem clrM_lt {row by_ : List Int} {t b : Nat} (h1 : ∀ a ∈ row, a.natAbs < 2 ^ b) (h2 : ∀ a ∈ by_, a.natAbs < 2 ^ b) : ∀ a ∈ clrM row by_ t, a.natAbs < 2 ^ (2 * b + 1) := by
  intro a ha
  obtain ⟨p, hp, rfl⟩ := List.mem_map.mp ha
  obtain ⟨m1, m2⟩ := List.of_mem_zip (show (p.1, p.2) ∈ _ from hp)
  have g : ∀ {l : List Int}, (∀ a ∈ l, a.natAbs < 2 ^ b) → (l.getD t 0).natAbs < 2 ^ b := fun {l} hl => by
    rw [List.getD_eq_getElem?_getD]
    cases e : l[t]? with
    | none => exact Nat.pow_pos (by decide)
    | some a => exact hl a (List.mem_of_getElem? e)
  have q1 : (p.1 * by_.getD t 0).natAbs < 2 ^ (b + b) := by
    rw [Int.natAbs_mul, Nat.pow_add]
    exact Nat.mul_lt_mul'' (h1 _ m1) (g h2)
  have q2 : (p.2 * row.getD t 0).natAbs < 2 ^ (b + b) := by
    rw [Int.natAbs_mul, Nat.pow_add]
    exact Nat.mul_lt_mul'' (h2 _ m2) (g h1)
  rw [show 2 * b + 1 = (b + b) + 1 by omega, Nat.pow_succ]
  omega
/-- two rows change places -/
def swapM (rows : List (List Int)) (t p : Nat) : List (List Int) := (rows.set t (rows.getD p [])).set p (rows.getD t [])
/-- the first i rows (but the t-th) cleared by the t-th -/
def clearTo (rows : List (List Int)) (t i : Nat) : List (List Int) := (List.range rows.length).map fun o => if o < i ∧ o ≠ t then redM (clrM (rows.getD o []) (rows.getD t []) t) else rows.getD o []
def stepM (rows : List (List Int)) (t : Nat) : List (List Int) := clearTo (swapM rows t (pivM rows t).toNat) t rows.length
def gjTo (rows : List (List Int)) : Nat → Option (List (List Int))
  | 0 => some rows
  | t + 1 => match gjTo rows t with
    | none => none
    | some rs => if pivM rs t < 0 then none else some (stepM rs t)
def solvedM (rows : List (List Int)) : List Rat := match gjTo rows rows.length with
  | none => []
  | some rs => rs.zipIdx.map fun p => Rat.divInt (p.1.getD rows.length 0) (p.1.getD p.2 0)
def bt : Nat → Nat
  | 0 => 520
  | t + 1 => 2 * bt t + 1
/-- how the rows stand behind t steps -/
structure GJ (n t : Nat) (rs : List (List Int)) : Prop where
  len : rs.length = n
  row : ∀ r ∈ rs, r.length = n + 1
  diag : ∀ j, j < t → ent rs j j ≠ 0
  off : ∀ j, j < t → ∀ i, i < n → i ≠ j → ent rs i j = 0
  bnd : ∀ r ∈ rs, ∀ a ∈ r, a.natAbs < 2 ^ bt t
theorem swapM_len (rows : List (List Int)) (t p : Nat) : (swapM rows t p).length = rows.length := by unfold swapM; rw [List.length_set, List.length_set]
theorem swapM_get {rows : List (List Int)} {t p : Nat} (ht : t < rows.length) (hp : p < rows.length) (o : Nat) : (swapM rows t p).getD o [] = if o = p then rows.getD t [] else if o = t then rows.getD p [] else rows.getD o [] := by
  unfold swapM
  rw [List.getD_eq_getElem?_getD]
  by_cases h : o = p
  · subst h
    rw [if_pos rfl, List.getElem?_set_self (by rw [List.length_set]; exact hp)] <;> rfl
  · rw [if_neg h, List.getElem?_set_ne (Ne.symm h)]
    by_cases h2 : o = t
    · subst h2
      rw [if_pos rfl, List.getElem?_set_self ht] <;> rfl
    · rw [if_neg h2, List.getElem?_set_ne (Ne.symm h2), List.getD_eq_getElem?_getD]
theorem clearTo_len {rows : List (List Int)} {t i : Nat} : (clearTo rows t i).length = rows.length := by unfold clearTo; rw [List.length_map, List.length_range]
theorem clearTo_get {rows : List (List Int)} {t i o : Nat} (h : o < rows.length) : (clearTo rows t i).getD o [] = if o < i ∧ o ≠ t then redM (clrM (rows.getD o []) (rows.getD t []) t) else rows.getD o [] := by
  unfold clearTo
  rw [List.getD_eq_getElem?_getD, List.getElem?_map, List.getElem?_range h] <;> rfl
theorem rows_range (rows : List (List Int)) : (List.range rows.length).map (fun o => rows.getD o []) = rows := by
  refine List.ext_getElem? fun j => ?_
  rw [List.getElem?_map]
  by_cases h : j < rows.length
  · rw [List.getElem?_range h, Option.map_some, List.getD_eq_getElem?_getD, List.getElem?_eq_getElem h] <;> rfl
  · rw [List.getElem?_eq_none (by rw [List.length_range]; omega), List.getElem?_eq_none (by omega)] <;> rfl
theorem clearTo_zero {rows : List (List Int)} {t : Nat} : clearTo rows t 0 = rows := by
  unfold clearTo
  refine Eq.trans (List.map_congr_left fun j _ => ?_) (rows_range rows)
  rw [if_neg (by omega)]
theorem clearTo_set {rows : List (List Int)} {t i : Nat} (h : i ≠ t) : (clearTo rows t i).set i (redM (clrM (rows.getD i []) (rows.getD t []) t)) = clearTo rows t (i + 1) := by
  unfold clearTo
  rw [set_range]
  refine List.map_congr_left fun j _ => ?_
  by_cases e : j = i
  · subst e
    rw [if_pos rfl, if_pos ⟨by omega, h⟩]
  · rw [if_neg e]
    by_cases hj : j < i ∧ j ≠ t
    · rw [if_pos hj, if_pos ⟨by omega, hj.2⟩]
    · rw [if_neg hj, if_neg (by omega)]
theorem clearTo_same {rows : List (List Int)} {t : Nat} : clearTo rows t t = clearTo rows t (t + 1) := by
  unfold clearTo
  refine List.map_congr_left fun j _ => ?_
  by_cases hj : j < t ∧ j ≠ t
  · rw [if_pos hj, if_pos ⟨by omega, hj.2⟩]
  · rw [if_neg hj, if_neg (by omega)]
theorem piv_ok {rows : List (List Int)} {t : Nat} (h : ¬ pivM rows t < 0) : ∃ p : Nat, pivM rows t = (p : Int) ∧ t ≤ p ∧ p < rows.length ∧ ent rows p t ≠ 0 := by
  unfold pivM at h ⊢
  cases e : (List.range (rows.length - t)).find? fun i => decide (ent rows (t + i) t ≠ 0) with
  | none =>
    rw [e] at h
    exact absurd (show (-1 : Int) < 0 by decide) h
  | some i =>
    have h1 := List.find?_some e
    have h2 := List.mem_range.mp (List.mem_of_find?_eq_some e)
    exact ⟨t + i, rfl, by omega, by omega, of_decide_eq_true h1⟩
theorem mem_getD {α : Type} {l : List α} {r d : α} (h : r ∈ l) : ∃ i, i < l.length ∧ l.getD i d = r := by
  obtain ⟨i, hi, e⟩ := List.getElem_of_mem h
  exact ⟨i, hi, by rw [List.getD_eq_getElem?_getD, List.getElem?_eq_getElem hi]; exact e⟩
theorem gj_step {n t : Nat} {rs : List (List Int)} (G : GJ n t rs) (ht : t < n) (h : ¬ pivM rs t < 0) : GJ n (t + 1) (stepM rs t) := by
  obtain ⟨p, ep, hp1, hp2, hp3⟩ := piv_ok h
  have hlen := G.len
  have htl : t < rs.length := by omega
  unfold stepM
  rw [ep, Int.toNat_natCast]
  have sw := fun o => swapM_get htl hp2 o
  have swl := swapM_len rs t p
  have swm : ∀ o, o < n → (swapM rs t p).getD o [] ∈ rs := fun o ho => by
    rw [sw o]
    split
    · exact row_mem htl
    · split
      · exact row_mem hp2
      · exact row_mem (by omega)
  have rl : ∀ o, o < n → ((swapM rs t p).getD o []).length = n + 1 := fun o ho => G.row _ (swm o ho)
  have tt : (swapM rs t p).getD t [] = rs.getD p [] := by
    rw [sw t]
    by_cases e : t = p
    · rw [if_pos e, e]
    · rw [if_neg e, if_pos rfl]
  have pz : ∀ j, j < t → ((swapM rs t p).getD t []).getD j 0 = 0 := fun j hj => by
    rw [tt]
    exact G.off j hj p (by omega) (by omega)
  have pnz : ((swapM rs t p).getD t []).getD t 0 ≠ 0 := by
    rw [tt]
    exact hp3
  have get : ∀ o, o < n → (clearTo (swapM rs t p) t rs.length).getD o [] = if o ≠ t then redM (clrM ((swapM rs t p).getD o []) ((swapM rs t p).getD t []) t) else (swapM rs t p).getD o [] := fun o ho => by
    rw [clearTo_get (by omega)]
    by_cases e : o = t
    · rw [if_neg (by simp [e]), if_neg (by simp [e])]
    · rw [if_pos ⟨by omega, e⟩, if_pos e]
  have bw : ∀ o, o < n → ∀ a ∈ (swapM rs t p).getD o [], a.natAbs < 2 ^ bt t := fun o ho => G.bnd _ (swm o ho)
  have entc : ∀ o, o < n → o ≠ t → ∀ j, j < n + 1 → ∃ g : Int, g ≠ 0 ∧ ((swapM rs t p).getD o []).getD j 0 * ((swapM rs t p).getD t []).getD t 0 - ((swapM rs t p).getD t []).getD j 0 * ((swapM rs t p).getD o []).getD t 0 = g * ent (clearTo (swapM rs t p) t rs.length) o j := fun o ho hot j hj => by
    obtain ⟨g, hg, q⟩ := redM_get (clrM ((swapM rs t p).getD o []) ((swapM rs t p).getD t []) t)
    refine ⟨g, hg, ?_⟩
    unfold ent
    rw [get o ho, if_pos hot, ← q j, clrM_get (by rw [rl o ho, rl t ht]) (by rw [rl o ho]; exact hj)]
  refine ⟨by rw [clearTo_len, swl, hlen], fun r hr => ?_, fun j hj => ?_, fun j hj i hi hij => ?_, fun r hr => ?_⟩
  · obtain ⟨o, ho, rfl⟩ := mem_getD (d := []) hr
    rw [clearTo_len, swl, hlen] at ho
    rw [get o ho]
    split
    · rw [redM_len, clrM_len _ _ _ (by rw [rl o ho, rl t ht]), rl o ho]
    · exact rl o ho
  · by_cases e : j = t
    · subst e
      unfold ent
      rw [get j ht, if_neg (by simp)]
      exact pnz
    · have hjt : j < t := by omega
      obtain ⟨g, hg, q⟩ := entc j (by omega) e j (by omega)
      rw [pz j hjt, Int.zero_mul, Int.sub_zero] at q
      have e2 : ((swapM rs t p).getD j []).getD j 0 ≠ 0 := by
        rw [sw j, if_neg (by omega), if_neg e]
        exact G.diag j hjt
      intro z
      rw [z, Int.mul_zero] at q
      exact Int.mul_ne_zero e2 pnz q
  · by_cases e : i = t
    · subst e
      have hji : j < i := by omega
      unfold ent
      rw [get i hi, if_neg (by simp)]
      exact pz j hji
    · obtain ⟨g, hg, q⟩ := entc i hi e j (by omega)
      have : g * ent (clearTo (swapM rs t p) t rs.length) i j = 0 := by
        rw [← q]
        by_cases ej : j = t
        · subst ej
          rw [Int.mul_comm (((swapM rs j p).getD i []).getD j 0)]
          exact Int.sub_self _
        · have hjt : j < t := by omega
          have z1 : ((swapM rs t p).getD i []).getD j 0 = 0 := by
            rw [sw i]
            split
            · exact G.off j hjt t ht (by omega)
            · exact G.off j hjt i hi hij
          rw [z1, pz j hjt, Int.zero_mul, Int.zero_mul, Int.sub_zero]
      rcases Int.mul_eq_zero.mp this with z | z
      · exact absurd z hg
      · exact z
  · obtain ⟨o, ho, rfl⟩ := mem_getD (d := []) hr
    rw [clearTo_len, swl, hlen] at ho
    rw [get o ho]
    split
    · exact redM_lt (clrM_lt (bw o ho) (bw t ht))
    · intro a ha
      exact Nat.lt_of_lt_of_le (bw o ho a ha) (pow_mono2 (by show bt t ≤ 2 * bt t + 1; omega))
theorem gj_all {n : Nat} {rows : List (List Int)} (G : GJ n 0 rows) : ∀ t, t ≤ n → ∀ rs, gjTo rows t = some rs → GJ n t rs
  | 0, _, rs, e => by
    cases e
    exact G
  | t + 1, ht, rs, e => by
    unfold gjTo at e
    cases q : gjTo rows t with
    | none => rw [q] at e; cases e
    | some rs' =>
      rw [q] at e
      have e' : (if pivM rs' t < 0 then none else some (stepM rs' t)) = some rs := e
      by_cases hp : pivM rs' t < 0
      · rw [if_pos hp] at e'; cases e'
      · rw [if_neg hp] at e'
        obtain rfl := Option.some.inj e'
        exact gj_step (gj_all G t (by omega) rs' q) (by omega) hp
theorem bt_mono : ∀ {t u : Nat}, t ≤ u → bt t ≤ bt u := fun {t u} h => by
  induction h with
  | refl => exact Nat.le_refl _
  | step _ ih => exact Nat.le_trans ih (by show _ ≤ 2 * _ + 1; omega)
def R_solved (ds : List PyData) (d : PyData) : Prop := ∃ (rows : List (List Int)), ds = [.list (dR rows)] ∧ rows.length ≤ 4 ∧ GJ rows.length 0 rows ∧ d = .list ((solvedM rows).map fr)
theorem len_solved : ∀ ds d, R_solved ds d → ds.length = 1 := fun _ _ ⟨_, h, _⟩ => by rw [h] <;> rfl
theorem dR_set (rows : List (List Int)) (i : Nat) (r : List Int) : (dR rows).set i (dI r) = dR (rows.set i r) := List.map_set.symm
theorem toI_row (row : List Int) {j : Nat} (hj : j < row.length) : toI ((nI row).getD j .none) = row.getD j 0 := by
  show toI ((List.map PyData.int row).getD j .none) = _
  rw [List.getD_eq_getElem?_getD, List.getElem?_map, List.getD_eq_getElem?_getD, List.getElem?_eq_getElem hj] <;> rfl
theorem nI_last (row : List Int) {n : Nat} (hl : row.length = n + 1) : (nI row)[(nI row).length - 1]? = some (.int (row.getD n 0)) := by
  show (List.map PyData.int row)[(List.map PyData.int row).length - 1]? = _
  rw [List.length_map, hl, Nat.add_sub_cancel, List.getElem?_map, List.getD_eq_getElem?_getD, List.getElem?_eq_getElem (by omega)] <;> rfl
theorem gj_none {rows : List (List Int)} {t : Nat} (h : gjTo rows t = none) : ∀ u, t ≤ u → gjTo rows u = none := fun u hu => by
  induction hu with
  | refl => exact h
  | step _ ih => unfold gjTo; rw [ih]
abbrev s_solved : Stmt := top 29
abbrev N_solved : List Str := ["rows", "at", "place", "other", "row"]
theorem sc_solved : FnScope N_solved ["rows"] (defScope s_solved) := C8.fnScope_by (by decide +kernel)
theorem bi_solved : BindsAt "solved" s_solved ["rows"] := fun _ _ _ _ _ _ us hl => match us, hl with | [_], _ => rfl
def t_solved (K : PySem.W.Frag) : TS :=
  (tSeq (tAsg (tCB (rListS K) (tCons (tVar 0) tNil)) (gName 0))
    (tSeq (tFor (iRng1 (tCons (tCB (rLenS K) (tCons (tVar 0) tNil)) tNil)) (gName 1) (tSeq (tAsg (tCall (spD R_pivot_row) [] E0 (tCons (tVar 0) (tCons (tVar 1) tNil))) (gName 2))
    (tSeq (tIfS (tTest (tOp (rI0 fun i j => .bl (decide (i < j))) (tVar 2) (tC (.int 0)))) (tRet (tLst tNil)) tNext)
    (tSeq (tAsg (tTup (tCons (tOp (rIxL K) (tVar 0) (tVar 2)) (tCons (tOp (rIxL K) (tVar 0) (tVar 1)) tNil))) (gTup K 2 (gCons (gSub (tVar 0) (tVar 1) rSetL) (gCons (gSub (tVar 0) (tVar 2) rSetL) gNil))))
    (tFor (iRng1 (tCons (tCB (rLenS K) (tCons (tVar 0) tNil)) tNil)) (gName 3) (tIfS (tTest (tOp rNe (tVar 3) (tVar 1))) (tAsg (tCall (spD R_reduced) [] E0 (tCons (tCall (spD R_cleared) [] E0 (tCons (tOp (rIxL K) (tVar 0) (tVar 3)) (tCons (tOp (rIxL K) (tVar 0) (tVar 1)) (tCons (tVar 1) tNil)))) tNil)) (gSub (tVar 0) (tVar 3) rSetL)) tNext))))))
    (tRet (tLc (iEnum K (tCons (tVar 0) tNil)) (gTup K 2 (gCons (gName 1) (gCons (gName 4) gNil))) tYes (tCall (spD R_lowest) [] E0 (tCons (tOp (rIxL K) (tVar 4) (tUn (rU fun i => .int (-i)) (tC (.int 1)))) (tCons (tOp (rIxL K) (tVar 4) (tVar 1)) tNil))) [1, 4]))))
theorem d_solved {P : Program} {w : World} {K : PySem.W.Frag} {mg : Str → Option Value} {base : Heap} {C CR : Addr} (T : Tx K mg C CR) (f : Addr) (cdv : Value) (A : Around) (outer : List Env) (s : Shared) (H : Hp) (E : XK) (hr : Room 2 (A.deeper (envOfC "solved" (defScope s_solved) s.heap.objs.size f cdv))) :
    PSs (cxOf CX0 P w K mg base N_solved "solved" (defScope s_solved) f cdv A outer s H E).nox (defBody s_solved) (t_solved K) :=
  (pss_cons (ps_set (i := 0) sc_solved.nd rfl (Or.inl rfl) (pe_callTy call_list_of (by rfl) T.b_list PyProof.Rows.boot_list (pa_cons (pv 0) pa_nil)))
    (pss_cons (ps_for PassesOwn.never rfl (pi_range1 (by rfl) T.b_range (pa_cons (pe_callB call_len_seq (by rfl) T.b_len PySem.boot_len (pa_cons (pv 0) pa_nil)) pa_nil)) (pg_name (i := 1) sc_solved.nd rfl (Or.inl rfl)) (pss_cons (ps_set (i := 2) sc_solved.nd rfl (Or.inl rfl) (pe_cal (cal_pivot_row T) hr (by decide) (by rfl) (pa_cons (pv 0) (pa_cons (pv 1) pa_nil))))
    (pss_cons (ps_if (pt_cmpR op_lt (pv 2) pe_int (nomark _)) (pss_one (ps_ret (pe_lst pa_nil))) pss_nil)
    (pss_cons (ps_asg (pe_tup (pa_cons (pe_ix ix_list (pv 0) (pv 2) (fun _ _ => rfl)) (pa_cons (pe_ix ix_list (pv 0) (pv 1) (fun _ _ => rfl)) pa_nil))) (pg_tup rfl (pgs_cons (pg_sub (pv 0) (pv 1) set_list) (pgs_cons (pg_sub (pv 0) (pv 2) set_list) pgs_nil))))
    (pss_one (ps_for PassesOwn.never rfl (pi_range1 (by rfl) T.b_range (pa_cons (pe_callB call_len_seq (by rfl) T.b_len PySem.boot_len (pa_cons (pv 0) pa_nil)) pa_nil)) (pg_name (i := 3) sc_solved.nd rfl (Or.inl rfl)) (pss_one (ps_if (pt_cmpR op_ne (pv 3) (pv 1) (nomark _)) (pss_one (ps_asg (pe_cal (cal_reduced T) hr (by decide) (by rfl) (pa_cons (pe_cal (cal_cleared T) hr (by decide) (by rfl) (pa_cons (pe_ix ix_list (pv 0) (pv 3) (fun _ _ => rfl)) (pa_cons (pe_ix ix_list (pv 0) (pv 1) (fun _ _ => rfl)) (pa_cons (pv 1) pa_nil)))) pa_nil)) (pg_sub (pv 0) (pv 3) set_list))) pss_nil))))))))
    (pss_one (ps_ret (pe_lc (own := [("at", 1), ("row", 4)]) rfl sc_solved.nd (pi_enum (by rfl) T.b_enumerate (pa_cons (pv 0) pa_nil)) (blkOk_by (own := [("at", 1), ("row", 4)]) (N := N_solved) (sc := defScope s_solved) (by decide +kernel)) (fun _ _ _ _ _ => (pg_tup rfl (pgs_cons (pg_name (i := 1) sc_solved.nd rfl (Or.inl rfl)) (pgs_cons (pg_name (i := 4) sc_solved.nd rfl (Or.inl rfl)) pgs_nil)))) (fun _ _ _ _ _ => pts_nil) (fun _ _ _ _ _ => (pe_cal (cal_lowest T) hr (by decide) (by rfl) (pa_cons (pe_ix ix_list (pv 4) (pe_un un_neg pe_int) (fun _ _ => rfl)) (pa_cons (pe_ix ix_list (pv 4) (pv 1) (fun _ _ => rfl)) pa_nil)))))))))
theorem run_solved {K : PySem.W.Frag} (c : Cc) (ds : List PyData) (d : PyData) (ha : c.a = none) (h : R_solved ds d) : Rn c (t_solved K) (entry N_solved ds) m0 (fun _ _ => d = .none) (fun d' _ => d' = d) := by
  obtain ⟨rows, rfl, hn, G0, rfl⟩ := h
  refine r_seq (r_asgN (n_list (e_var rfl).q) ?_)
  refine r_seq (r_forR (a_cons (e_len (q_var rfl)) a_nil) (by rw [List.length_map]; omega) (by rw [List.length_map]; omega) (fun t => [.own (dR ((gjTo rows t).getD [])), .no, .no, .no, .no]) (fun _ => m0) (fun t => (gjTo rows t).isSome = true)
    ⟨.inr rfl, .inl rfl, .inl rfl, .inl rfl, .inl rfl, trivial⟩ rfl rfl (fun B t ht hG => ?_) (fun hG => ?_))
  · rw [List.length_map] at ht
    obtain ⟨rs, hrs⟩ : ∃ rs, gjTo rows t = some rs := Option.isSome_iff_exists.mp hG
    have G := gj_all G0 t (by omega) rs hrs
    have hlen := G.len
    have hbt : ∀ r ∈ rs, ∀ a ∈ r, a.natAbs < 2 ^ 4170 := fun r hr a ha => Nat.lt_of_lt_of_le (G.bnd r hr a ha) (pow_mono2 (Nat.le_trans (bt_mono (show t ≤ 3 by omega)) (by decide)))
    rw [hrs]
    show Rn (c.on B) _ [SD.own (dR rs), .val (.int (t : Int)), .no, .no, .no] m0 _ _
    refine r_seq (r_asg (e_callW (w_consQ (q_var rfl) (w_cons (e_var rfl) w_nil)) ⟨rs, t, rfl, by omega, by omega, fun r hr => by rw [G.row r hr]; omega, rfl⟩ rfl) ?_)
    refine r_seq (r_if (b_test (e_C0 (e_var rfl) e_int)) (fun hb => ?_) (fun hb => ?_))
    · have hb : pivM rs t < 0 := of_decide_eq_true hb
      refine r_ret (n_lst a_nil (by decide)).s ?_
      have e1 : gjTo rows (t + 1) = none := by
        unfold gjTo
        rw [hrs]
        exact if_pos hb
      unfold solvedM
      rw [gj_none e1 rows.length (by omega)] <;> rfl
    · have hb : ¬ pivM rs t < 0 := of_decide_eq_false hb
      obtain ⟨p, ep, hp1, hp2, hp3⟩ := piv_ok hb
      rw [ep]
      refine r_next ?_
      refine r_seq (r_swap (d1 := dI (rs.getD p [])) (d2 := dI (rs.getD t [])) rfl (e_ix (q_var rfl) (e_var rfl) (by omega) (by rw [Int.toNat_natCast]; exact dR_get hp2)) (e_ix (q_var rfl) (e_var rfl) (by omega) (by rw [Int.toNat_natCast]; exact dR_get (by omega))) (fun _ => e_var rfl) (fun _ => e_var rfl) ⟨by omega, by rw [List.length_map]; omega⟩ ⟨by omega, by rw [List.length_map]; omega⟩ ?_)
      rw [Int.toNat_natCast, Int.toNat_natCast, dR_set, dR_set]
      have htl : t < rs.length := by omega
      have sw := fun o => swapM_get htl hp2 o
      have swl := swapM_len rs t p
      have swm : ∀ o, o < rs.length → (swapM rs t p).getD o [] ∈ rs := fun o ho => by
        rw [sw o]
        split
        · exact row_mem htl
        · split
          · exact row_mem hp2
          · exact row_mem ho
      have estep : stepM rs t = clearTo (swapM rs t p) t rs.length := by
        unfold stepM
        rw [ep, Int.toNat_natCast]
      have enext : gjTo rows (t + 1) = some (stepM rs t) := by
        unfold gjTo
        rw [hrs]
        exact if_neg hb
      refine r_forR (a_cons (e_len (q_var rfl)) a_nil) (by rw [List.length_map]; show ((swapM rs t p).length : Int) ≤ _; omega) (by rw [List.length_map]; show _ ≤ ((swapM rs t p).length : Int); omega) (fun o => [.own (dR (clearTo (swapM rs t p) t o)), .val (.int (t : Int)), .no, .no, .no]) (fun _ => m0) (fun _ => True)
        ⟨.inr ?_, .inr rfl, .inl rfl, .inl rfl, .inl rfl, trivial⟩ rfl trivial (fun B' o ho _ => ?_) (fun _ => ?_)
      · rw [clearTo_zero] <;> rfl
      · rw [List.length_map] at ho
        have ho : o < rs.length := by
          have : (o : Int) < ((swapM rs t p).length : Int) := ho
          omega
        have go : (clearTo (swapM rs t p) t o).getD o [] = (swapM rs t p).getD o [] := by
          rw [clearTo_get (by omega), if_neg (by omega)]
        have gt : (clearTo (swapM rs t p) t o).getD t [] = (swapM rs t p).getD t [] := by
          rw [clearTo_get (by omega), if_neg (by simp)]
        refine r_if (b_test (e_neI (e_var rfl) (e_var rfl))) (fun hne => ?_) (fun heq => ?_)
        · have hne : o ≠ t := by
            have : (o : Int) ≠ (t : Int) := by simpa using hne
            omega
          have l1 := G.row _ (swm o ho)
          have l2 := G.row _ (swm t htl)
          have b1 := hbt _ (swm o ho)
          have b2 := hbt _ (swm t htl)
          refine r_setI rfl (e_call (a_cons (e_call (a_cons (e_ix (q_var rfl) (e_var rfl) (by omega) (by rw [Int.toNat_natCast]; exact dR_get (by rw [clearTo_len]; omega))) (a_cons (e_ix (q_var rfl) (e_var rfl) (by omega) (by rw [Int.toNat_natCast]; exact dR_get (by rw [clearTo_len]; omega))) (a_cons (e_var rfl) a_nil))) ⟨_, _, t, by rw [go, gt], by rw [l1]; omega, by rw [l1]; omega, by rw [l2]; omega, fun a ha => Nat.lt_of_lt_of_le (b1 a ha) (pow_mono2 (by decide)), fun a ha => Nat.lt_of_lt_of_le (b2 a ha) (pow_mono2 (by decide)), rfl⟩) a_nil)
            ⟨_, rfl, by rw [clrM_len _ _ _ (by rw [l1, l2]), l1]; omega, fun a ha => Nat.lt_of_lt_of_le (clrM_lt b1 b2 a ha) (pow_mono2 (by decide)), rfl⟩) (e_var rfl) (by omega) (by rw [List.length_map, clearTo_len]; omega) ⟨⟨.inr ?_, .inr rfl, .inl rfl, .inl rfl, .inl rfl, trivial⟩, rfl, trivial⟩
          rw [Int.toNat_natCast, dR_set, clearTo_set hne]
        · have heq : o = t := by
            have : (o : Int) = (t : Int) := by simpa using heq
            omega
          subst heq
          exact r_next ⟨⟨.inr (by rw [clearTo_same]), .inr rfl, .inl rfl, .inl rfl, .inl rfl, trivial⟩, rfl, trivial⟩
      · refine ⟨⟨.inr ?_, .inl rfl, .inl rfl, .inl rfl, .inl rfl, trivial⟩, rfl, by rw [enext] <;> rfl⟩
        rw [enext, estep, List.length_map]
        show SD.own (dR (clearTo (swapM rs t p) t ((swapM rs t p).length : Int).toNat)) = _
        rw [Int.toNat_natCast, swl] <;> rfl
  · rw [List.length_map, Int.toNat_natCast] at hG ⊢
    obtain ⟨rs, hrs⟩ : ∃ rs, gjTo rows rows.length = some rs := Option.isSome_iff_exists.mp hG
    have G := gj_all G0 rows.length (Nat.le_refl _) rs hrs
    have hlen := G.len
    rw [hrs]
    show Rn c _ [SD.own (dR rs), .no, .no, .no, .no] m0 _ _
    refine r_ret ((n_lcE (f := fun _ _ => true) (v := fun i d => match d with | .list ds => fr (Rat.divInt (toI (ds.getD rows.length .none)) (toI (ds.getD i .none))) | _ => .none) (q_var rfl) (by rw [List.length_map]; omega) (by decide) (by decide) (fun _ _ _ => b_yes) (fun i d hi _ => ?_)).s) ?_
    · have hil : i < rs.length := by
        have := (List.getElem?_eq_some_iff.mp hi).1
        rw [List.length_map] at this
        exact this
      rw [dR_get hil] at hi
      obtain rfl := Option.some.inj hi
      have hl := G.row _ (row_mem hil)
      have hb : ∀ a ∈ rs.getD i [], a.natAbs < 2 ^ 8999 := fun a ha => Nat.lt_of_lt_of_le (G.bnd _ (row_mem hil) a ha) (pow_mono2 (Nat.le_trans (bt_mono hn) (by decide)))
      have h1 : (rs.getD i []).getD i 0 ≠ 0 := G.diag i (by omega)
      have h2 : ((rs.getD i []).getD i 0).natAbs < 2 ^ 8999 := hb _ (getD_mem (by omega))
      have e1 : toI ((nI (rs.getD i [])).getD rows.length .none) = (rs.getD i []).getD rows.length 0 := toI_row _ (by omega)
      have e2 : toI ((nI (rs.getD i [])).getD i .none) = (rs.getD i []).getD i 0 := toI_row _ (by omega)
      show EvS c _ _ m0 (fr (Rat.divInt (toI ((nI (rs.getD i [])).getD rows.length .none)) (toI ((nI (rs.getD i [])).getD i .none))))
      rw [e1, e2]
      exact e_call (a_cons (e_ixLast (e_var rfl).q (e_neg e_int) (nI_last _ hl)) (a_cons ((e_ixI (e_var rfl).q (e_var rfl) (by omega) (by omega)).is (by rw [Int.toNat_natCast])) a_nil)) ⟨_, _, rfl, h1, h2, rfl⟩
    · unfold solvedM
      rw [hrs, filt_true]
      show PyData.list _ = PyData.list (List.map fr (List.map _ _))
      congr 1
      rw [List.map_map]
      refine List.ext_getElem? fun j => ?_
      show (List.map _ (List.zipIdx (List.map dI rs)))[j]? = (List.map _ (List.zipIdx rs))[j]?
      by_cases hj : j < rs.length
      · rw [List.getElem?_map, List.getElem?_map, List.getElem?_zipIdx, List.getElem?_zipIdx, List.getElem?_map, List.getElem?_eq_getElem hj]
        have hl := G.row _ (List.getElem_mem hj)
        show some (fr (Rat.divInt (toI ((nI rs[j]).getD rows.length .none)) (toI ((nI rs[j]).getD (0 + j) .none)))) = some (fr (Rat.divInt (rs[j].getD rows.length 0) (rs[j].getD (0 + j) 0)))
        rw [toI_row _ (by omega), toI_row _ (by omega)]
      · rw [List.getElem?_eq_none (by rw [List.length_map, List.length_zipIdx, List.length_map]; omega), List.getElem?_eq_none (by rw [List.length_map, List.length_zipIdx]; omega)]
theorem cal_solved {P : Program} {w : World} {K : PySem.W.Frag} {mg : Str → Option Value} {base : Heap} {C CR : Addr} (T : Tx K mg C CR) : CalX P w K mg base CX0 3 "solved" (spD R_solved) :=
  cal_of T.d_solved sc_solved bi_solved (spD_len len_solved) (d_solved T) (pure_of run_solved)

/-! #### worth -/
def wholeM (nums : List Rat) : Int := nums.foldl (fun w q => w * (q.den : Int)) 1
def foundTo (nums : List Rat) (x : Int) (i : Nat) : Int := (List.range i).foldl (fun s b => s + (nums.getD b 0).num * (wholeM nums / ((nums.getD b 0).den : Int)) * x ^ b) 0
def worthM (nums : List Rat) (x : Int) : Int := foundTo nums x nums.length + wholeM nums * x ^ nums.length
theorem whole_lt : ∀ (nums : List Rat) (a : Int) (n : Nat), a.natAbs < 2 ^ n → (∀ q ∈ nums, q.den < 2 ^ 8400) → (nums.foldl (fun w q => w * (q.den : Int)) a).natAbs < 2 ^ (n + 8400 * nums.length)
  | [], _, n, h, _ => by rw [List.length_nil, Nat.mul_zero, Nat.add_zero]; exact h
  | q :: l, a, n, h, hf => by
    have h1 : (a * (q.den : Int)).natAbs < 2 ^ (n + 8400) := by
      rw [Int.natAbs_mul, Nat.pow_add, Int.natAbs_natCast]
      exact Nat.mul_lt_mul'' h (hf q List.mem_cons_self)
    have h2 := whole_lt l (a * (q.den : Int)) (n + 8400) h1 fun o' ho => hf o' (List.mem_cons_of_mem _ ho)
    rw [List.length_cons, Nat.mul_succ, show n + (8400 * l.length + 8400) = n + 8400 + 8400 * l.length by omega]
    exact h2
theorem whole_take {nums : List Rat} {i : Nat} {q : Rat} (h : nums[i]? = some q) : wholeM (nums.take (i + 1)) = wholeM (nums.take i) * (q.den : Int) := by
  unfold wholeM
  rw [take_more h, List.foldl_append] <;> rfl
theorem pow_small {x : Nat} (hx : x ≤ 60) : ∀ i, i ≤ 4 → ((x : Int) ^ i).natAbs ≤ 60 ^ i
  | 0, _ => by rw [Int.pow_zero]; decide
  | i + 1, hi => by
    have ih := pow_small hx i (by omega)
    rw [Int.pow_succ, Int.natAbs_mul, Int.natAbs_natCast, Nat.pow_succ]
    exact Nat.mul_le_mul ih hx
theorem pow_lt {x : Nat} (hx : x ≤ 60) {i : Nat} (hi : i ≤ 4) : -(2 ^ 64) < (x : Int) ^ i ∧ (x : Int) ^ i < 2 ^ 64 := by
  have h := pow_small hx i hi
  have h2 : 60 ^ i ≤ 60 ^ 4 := Nat.pow_le_pow_right (by decide) hi
  have h3 : (60 : Nat) ^ 4 = 12960000 := by decide
  omega
def R_worth (ds : List PyData) (d : PyData) : Prop := ∃ (nums : List Rat) (x : Nat), ds = [.list (nums.map fr), .int (x : Int)] ∧ nums.length ≤ 4 ∧ (∀ q ∈ nums, q.num.natAbs < 2 ^ 8400 ∧ q.den < 2 ^ 8400) ∧ x ≤ 60 ∧ d = .int (worthM nums (x : Int))
theorem len_worth : ∀ ds d, R_worth ds d → ds.length = 2 := fun _ _ ⟨_, _, h, _⟩ => by rw [h] <;> rfl
abbrev s_worth : Stmt := top 30
abbrev N_worth : List Str := ["numbers", "x", "whole", "top", "bottom", "found", "power"]
theorem sc_worth : FnScope N_worth ["numbers", "x"] (defScope s_worth) := C8.fnScope_by (by decide +kernel)
theorem bi_worth : BindsAt "worth" s_worth ["numbers", "x"] := fun _ _ _ _ _ _ us hl => match us, hl with | [_, _], _ => rfl
def t_worth (K : PySem.W.Frag) : TS :=
  (tSeq (tAsg (tC (.int 1)) (gName 2))
    (tSeq (tFor (iList K (tVar 0)) (gTup K 2 (gCons (gName 3) (gCons (gName 4) gNil))) (tAsg (tOp (rI CMulW fun i j => .int (i * j)) (tVar 2) (tVar 4)) (gName 2)))
    (tSeq (tAsg (tC (.int 0)) (gName 5))
    (tSeq (tAsg (tC (.int 1)) (gName 6))
    (tSeq (tFor (iList K (tVar 0)) (gTup K 2 (gCons (gName 3) (gCons (gName 4) gNil))) (tSeq (tAug 5 (tOp (rI CMul fun i j => .int (i * j)) (tOp (rI CMulW fun i j => .int (i * j)) (tVar 3) (tOp (rI CDivW fun i j => .int (i / j)) (tVar 2) (tVar 4))) (tVar 6)) (ipI fun i j => i + j))
    (tAsg (tOp (rI CMul fun i j => .int (i * j)) (tVar 6) (tVar 1)) (gName 6))))
    (tRet (tOp (rI0 fun i j => .int (i + j)) (tVar 5) (tOp (rI CMul fun i j => .int (i * j)) (tVar 2) (tVar 6)))))))))
theorem d_worth {P : Program} {w : World} {K : PySem.W.Frag} {mg : Str → Option Value} {base : Heap} {C CR : Addr} (T : Tx K mg C CR) (f : Addr) (cdv : Value) (A : Around) (outer : List Env) (s : Shared) (H : Hp) (E : XK) (hr : Room 0 (A.deeper (envOfC "worth" (defScope s_worth) s.heap.objs.size f cdv))) :
    PSs (cxOf CX0 P w K mg base N_worth "worth" (defScope s_worth) f cdv A outer s H E).nox (defBody s_worth) (t_worth K) :=
  (pss_cons (ps_set (i := 2) sc_worth.nd rfl (Or.inl rfl) pe_int)
    (pss_cons (ps_for PassesOwn.never rfl (pi_list (pv 0)) (pg_tup rfl (pgs_cons (pg_name (i := 3) sc_worth.nd rfl (Or.inl rfl)) (pgs_cons (pg_name (i := 4) sc_worth.nd rfl (Or.inl rfl)) pgs_nil))) (pss_one (ps_set (i := 2) sc_worth.nd rfl (Or.inl rfl) (pe_op op_mulW (pv 2) (pv 4)))))
    (pss_cons (ps_set (i := 5) sc_worth.nd rfl (Or.inl rfl) pe_int)
    (pss_cons (ps_set (i := 6) sc_worth.nd rfl (Or.inl rfl) pe_int)
    (pss_cons (ps_for PassesOwn.never rfl (pi_list (pv 0)) (pg_tup rfl (pgs_cons (pg_name (i := 3) sc_worth.nd rfl (Or.inl rfl)) (pgs_cons (pg_name (i := 4) sc_worth.nd rfl (Or.inl rfl)) pgs_nil))) (pss_cons (ps_aug (i := 5) sc_worth.nd rfl (Or.inl rfl) (pe_op op_mul (pe_op op_mulW (pv 3) (pe_op op_fdivW (pv 2) (pv 4))) (pv 6)) ip_add)
    (pss_one (ps_set (i := 6) sc_worth.nd rfl (Or.inl rfl) (pe_op op_mul (pv 6) (pv 1))))))
    (pss_one (ps_ret (pe_op op_add (pv 5) (pe_op op_mul (pv 2) (pv 6))))))))))
theorem run_worth {K : PySem.W.Frag} (c : Cc) (ds : List PyData) (d : PyData) (ha : c.a = none) (h : R_worth ds d) : Rn c (t_worth K) (entry N_worth ds) m0 (fun _ _ => d = .none) (fun d' _ => d' = d) := by
  obtain ⟨nums, x, rfl, hl, hb, hx, rfl⟩ := h
  have wl : ∀ i, i ≤ nums.length → (wholeM (nums.take i)).natAbs < 2 ^ (1 + 8400 * i) := fun i hi => by
    have := whole_lt (nums.take i) 1 1 (by decide) fun q hq => (hb q (List.mem_of_mem_take hq)).2
    rw [List.length_take, Nat.min_eq_left hi] at this
    exact this
  have wl4 : (wholeM nums).natAbs < 2 ^ 33601 := by
    have := wl nums.length (Nat.le_refl _)
    rw [List.take_length] at this
    exact Nat.lt_of_lt_of_le this (pow_mono2 (by omega))
  refine r_seq (r_asg e_int ?_)
  refine r_seq (r_forP (l := nums) (p1 := fun q => .int q.num) (p2 := fun q => .int (q.den : Int)) (e_var rfl) (fun i => [.val (.list (nums.map fr)), .val (.int (x : Int)), .val (.int (wholeM (nums.take i))), .no, .no, .no, .no]) (fun _ => m0) (fun _ => True)
    ⟨.inr rfl, .inr rfl, .inr rfl, .inl rfl, .inl rfl, .inl rfl, .inl rfl, trivial⟩ rfl trivial (fun B i q hi _ => ?_) (fun _ => ?_))
  · have hil : i < nums.length := (List.getElem?_eq_some_iff.mp hi).1
    have hq := hb q (List.mem_of_getElem? hi)
    refine r_asg (e_I (e_var rfl) (e_var rfl) (wide_mul (wl i (by omega)) (by rw [Int.natAbs_natCast]; exact hq.2) (by omega) (by decide) (by omega))) ⟨⟨.inr rfl, .inr rfl, .inr ?_, .inl rfl, .inl rfl, .inl rfl, .inl rfl, trivial⟩, rfl, trivial⟩
    rw [whole_take hi]
  · rw [List.take_length]
    refine r_seq (r_asg e_int ?_)
    refine r_seq (r_asg e_int ?_)
    refine r_seq (r_forP (l := nums) (p1 := fun q => .int q.num) (p2 := fun q => .int (q.den : Int)) (e_var rfl) (fun i => [.val (.list (nums.map fr)), .val (.int (x : Int)), .val (.int (wholeM nums)), .no, .no, .val (.int (foundTo nums (x : Int) i)), .val (.int ((x : Int) ^ i))]) (fun _ => m0) (fun _ => True)
      ⟨.inr rfl, .inr rfl, .inr rfl, .inl rfl, .inl rfl, .inr rfl, .inr rfl, trivial⟩ rfl trivial (fun B i q hi _ => ?_) (fun _ => ?_))
    · have hil : i < nums.length := (List.getElem?_eq_some_iff.mp hi).1
      have hq := hb q (List.mem_of_getElem? hi)
      have hd0 := q.den_nz
      have hdv : (wholeM nums / (q.den : Int)).natAbs < 2 ^ 33601 := Nat.lt_of_le_of_lt (ediv_natAbs_le _ (by omega)) wl4
      refine r_seq (r_aug rfl (e_I (e_I (e_var rfl) (e_I (e_var rfl) (e_var rfl) (wide_div (by omega) (by rw [Int.natAbs_natCast]; exact hq.2) (by decide) (by decide))) (wide_mul hq.1 hdv (by decide) (by decide) (by decide))) (e_var rfl) (.inr (pow_lt hx (by omega)))) ?_)
      refine r_asg (e_I (e_var rfl) (e_var rfl) (.inr ⟨by omega, by omega⟩)) ⟨⟨.inr rfl, .inr rfl, .inr rfl, .inl rfl, .inl rfl, .inr ?_, .inr ?_, trivial⟩, rfl, trivial⟩
      · have e1 : nums.getD i 0 = q := by rw [List.getD_eq_getElem?_getD, hi] <;> rfl
        have e2 : foundTo nums (x : Int) (i + 1) = foundTo nums (x : Int) i + q.num * (wholeM nums / (q.den : Int)) * (x : Int) ^ i := by
          unfold foundTo
          rw [List.range_succ, List.foldl_append]
          show _ + (nums.getD i 0).num * (wholeM nums / ((nums.getD i 0).den : Int)) * (x : Int) ^ i = _
          rw [e1]
        rw [e2]
      · rw [Int.pow_succ]
    · exact r_ret (e_I0 (e_var rfl) (e_I (e_var rfl) (e_var rfl) (.inr (pow_lt hx hl)))) rfl
theorem cal_worth {P : Program} {w : World} {K : PySem.W.Frag} {mg : Str → Option Value} {base : Heap} {C CR : Addr} (T : Tx K mg C CR) : CalX P w K mg base CX0 1 "worth" (spD R_worth) :=
  cal_of T.d_worth sc_worth bi_worth (spD_len len_worth) (d_worth T) (pure_of run_worth)

/-! #### located -/
def hankM (S : List Int) (s : Nat) : List (List Int) := (List.range s).map fun j => (S.drop j).take s ++ [0 - S.getD (j + s) 0]
def goneM (nums : List Rat) (n : Nat) : List Nat := (List.range n).filter fun x => !decide (nums = []) && decide (worthM nums (x : Int) = 0)
def locM (S : List Int) (s n : Nat) : List Nat := if (goneM (solvedM (hankM S s)) n).length = s then goneM (solvedM (hankM S s)) n else []
theorem hank_ok {S : List Int} {s : Nat} (hs : 2 * s ≤ S.length) (hb : ∀ j, j < 2 * s → (S.getD j 0).natAbs < 2 ^ 520) : GJ (hankM S s).length 0 (hankM S s) := by
  have hl : (hankM S s).length = s := by unfold hankM; rw [List.length_map, List.length_range]
  rw [hl]
  refine ⟨hl, fun r hr => ?_, fun j hj => absurd hj (Nat.not_lt_zero _), fun j hj => absurd hj (Nat.not_lt_zero _), fun r hr a ha => ?_⟩
  · obtain ⟨j, hj, rfl⟩ := List.mem_map.mp hr
    have := List.mem_range.mp hj
    rw [List.length_append, List.length_take, List.length_drop]
    show min s (S.length - j) + 1 = _
    omega
  · obtain ⟨j, hj, rfl⟩ := List.mem_map.mp hr
    have hj := List.mem_range.mp hj
    show a.natAbs < 2 ^ 520
    rcases List.mem_append.mp ha with h | h
    · obtain ⟨i, hi, rfl⟩ := List.getElem_of_mem h
      rw [List.length_take, List.length_drop] at hi
      have e : ((S.drop j).take s)[i]? = some (S.getD (j + i) 0) := by
        rw [List.getElem?_take, if_pos (by omega), List.getElem?_drop, List.getD_eq_getElem?_getD, List.getElem?_eq_getElem (show j + i < S.length by omega)] <;> rfl
      rw [List.getElem?_eq_getElem (by rw [List.length_take, List.length_drop]; omega)] at e
      rw [Option.some.inj e]
      exact hb _ (by omega)
    · have h := List.mem_singleton.mp h
      subst h
      have := hb (j + s) (by omega)
      omega
theorem solvedM_ok {rows : List (List Int)} (G0 : GJ rows.length 0 rows) (hn : rows.length ≤ 4) : (solvedM rows).length ≤ 4 ∧ ∀ q ∈ solvedM rows, q.num.natAbs < 2 ^ 8400 ∧ q.den < 2 ^ 8400 := by
  unfold solvedM
  cases e : gjTo rows rows.length with
  | none => exact ⟨show ([] : List Rat).length ≤ 4 by decide, fun q hq => absurd (show q ∈ ([] : List Rat) from hq) (by simp)⟩
  | some rs =>
    have G := gj_all G0 rows.length (Nat.le_refl _) rs e
    have hlen := G.len
    show (List.map _ rs.zipIdx).length ≤ 4 ∧ ∀ q ∈ List.map _ rs.zipIdx, _
    refine ⟨by rw [List.length_map, List.length_zipIdx]; omega, fun q hq => ?_⟩
    obtain ⟨p, hp, rfl⟩ := List.mem_map.mp hq
    obtain ⟨i, hi, ei⟩ := List.getElem_of_mem hp
    rw [List.length_zipIdx] at hi
    have e2 : rs.zipIdx[i]? = some p := by rw [List.getElem?_eq_getElem (by rw [List.length_zipIdx]; exact hi), ei]
    rw [List.getElem?_zipIdx, List.getElem?_eq_getElem hi] at e2
    obtain rfl := Option.some.inj e2
    have hr := G.row _ (List.getElem_mem hi)
    have hb : ∀ a ∈ rs[i], a.natAbs < 2 ^ 8400 := fun a ha => Nat.lt_of_lt_of_le (G.bnd _ (List.getElem_mem hi) a ha) (pow_mono2 (Nat.le_trans (bt_mono hn) (by decide)))
    have hd : rs[i].getD (0 + i) 0 ≠ 0 := by
      rw [Nat.zero_add]
      have := G.diag i (by omega)
      unfold ent at this
      rw [List.getD_eq_getElem?_getD (l := rs), List.getElem?_eq_getElem hi] at this
      exact this
    exact ⟨Nat.lt_of_le_of_lt (num_le hd) (hb _ (getD_mem (show rows.length < rs[i].length by omega))), Nat.lt_of_le_of_lt (den_le hd) (hb _ (getD_mem (show 0 + i < rs[i].length by omega)))⟩
theorem shaped_fr (q : Rat) : SeqAt.shaped (fr q) = true := rfl
theorem canLay_frs : ∀ l : List Rat, PyData.canLayAll0 (l.map fr) = true
  | [] => rfl
  | _ :: l => canLay_frs l
theorem depth_frs : ∀ l : List Rat, PyData.depthAll (l.map fr) ≤ 1
  | [] => Nat.zero_le _
  | q :: l => by
    show max 1 (PyData.depthAll (l.map fr)) ≤ 1
    have := depth_frs l
    omega
theorem shaped_frs (l : List Rat) : SeqAt.shaped (.list (l.map fr)) = true := by
  unfold SeqAt.shaped
  rw [show (PyData.list (l.map fr)).canLay0 = true from canLay_frs l, Bool.true_and]
  refine decide_eq_true ?_
  show PyData.depthAll (l.map fr) + 1 ≤ 64
  have := depth_frs l
  omega
theorem eqv_frs (l : List Rat) : PyData.eqv (.list (l.map fr)) (.list []) = decide (l = []) := by
  cases l with
  | nil => rfl
  | cons a l => rfl
def R_located (ds : List PyData) (d : PyData) : Prop := ∃ (S : List Int) (s n : Nat), ds = [dI S, .int (s : Int), .int (n : Int)] ∧ s ≤ 4 ∧ 2 * s ≤ S.length ∧ S.length ≤ 60 ∧ (∀ j, j < 2 * s → (S.getD j 0).natAbs < 2 ^ 520) ∧ n ≤ 60 ∧ d = dI (ofN (locM S s n))
theorem len_located : ∀ ds d, R_located ds d → ds.length = 3 := fun _ _ ⟨_, _, _, h, _⟩ => by rw [h] <;> rfl
abbrev s_located : Stmt := top 31
abbrev N_located : List Str := ["some", "slips", "many", "rows", "j", "numbers", "found", "x"]
theorem sc_located : FnScope N_located ["some", "slips", "many"] (defScope s_located) := C8.fnScope_by (by decide +kernel)
theorem bi_located : BindsAt "located" s_located ["some", "slips", "many"] := fun _ _ _ _ _ _ us hl => match us, hl with | [_, _, _], _ => rfl
def t_located (K : PySem.W.Frag) : TS :=
  (tSeq (tAsg (tLc (iRng1 (tCons (tVar 1) tNil)) (gName 4) tYes (tOp rCat (tSl (rSlL K) (tVar 0) (tPart (tVar 4)) (tPart (tOp (rI0 fun i j => .int (i + j)) (tVar 4) (tVar 1)))) (tLst (tCons (tOp (rI0 fun i j => .int (i - j)) (tC (.int 0)) (tOp (rIxL K) (tVar 0) (tOp (rI0 fun i j => .int (i + j)) (tVar 4) (tVar 1)))) tNil))) [4]) (gName 3))
    (tSeq (tAsg (tCall (spD R_solved) [] E0 (tCons (tVar 3) tNil)) (gName 5))
    (tSeq (tAsg (tLc (iRng1 (tCons (tVar 2) tNil)) (gName 7) (tAnd (tTest (tOp (rNeD K) (tVar 5) (tLst tNil))) (tTest (tOp rEq (tCall (spD R_worth) [] E0 (tCons (tVar 5) (tCons (tVar 7) tNil))) (tC (.int 0))))) (tVar 7) [7]) (gName 6))
    (tSeq (tIfS (tTest (tOp rNe (tCB (rLenS K) (tCons (tVar 6) tNil)) (tVar 1))) (tRet (tLst tNil)) tNext)
    (tRet (tVar 6))))))
theorem d_located {P : Program} {w : World} {K : PySem.W.Frag} {mg : Str → Option Value} {base : Heap} {C CR : Addr} (T : Tx K mg C CR) (f : Addr) (cdv : Value) (A : Around) (outer : List Env) (s : Shared) (H : Hp) (E : XK) (hr : Room 3 (A.deeper (envOfC "located" (defScope s_located) s.heap.objs.size f cdv))) :
    PSs (cxOf CX0 P w K mg base N_located "located" (defScope s_located) f cdv A outer s H E).nox (defBody s_located) (t_located K) :=
  (pss_cons (ps_setLc (i := 3) (own := [("j", 4)]) rfl sc_located.nd rfl rfl (sw_true rfl rfl rfl (by decide +kernel)) (pi_range1 (by rfl) T.b_range (pa_cons (pv 1) pa_nil)) (blkOk_by (own := [("j", 4)]) (N := N_located) (sc := defScope s_located) (by decide +kernel)) (fun _ _ _ _ _ => (pg_name (i := 4) sc_located.nd rfl (Or.inl rfl))) (fun _ _ _ _ _ => pts_nil) (fun _ _ _ _ _ => (pe_op op_cat (pe_slice sl_list (pv 0) (po_some (pv 4)) (po_some (pe_op op_add (pv 4) (pv 1)))) (pe_lst (pa_cons (pe_op op_sub pe_int (pe_ix ix_list (pv 0) (pe_op op_add (pv 4) (pv 1)) (fun _ _ => rfl))) pa_nil)))))
    (pss_cons (ps_set (i := 5) sc_located.nd rfl (Or.inr rfl) (pe_cal (cal_solved T) hr (by decide) (by rfl) (pa_cons (pv 3) pa_nil)))
    (pss_cons (ps_setLc (i := 6) (own := [("x", 7)]) rfl sc_located.nd rfl rfl (sw_true rfl rfl rfl (by decide +kernel)) (pi_range1 (by rfl) T.b_range (pa_cons (pv 2) pa_nil)) (blkOk_by (own := [("x", 7)]) (N := N_located) (sc := defScope s_located) (by decide +kernel)) (fun _ _ _ _ _ => (pg_name (i := 7) sc_located.nd rfl (Or.inl rfl))) (fun _ _ _ _ _ => (pts_one (PW.pt (pw_and (pt_cmpR (op_neD hr.units) (pv 5) (pe_lst pa_nil) (nomark _)) (pw_and1 (pt_cmpR op_eq (pe_cal (cal_worth T) hr (by decide) (by rfl) (pa_cons (pv 5) (pa_cons (pv 7) pa_nil))) pe_int (nomark _))))))) (fun _ _ _ _ _ => (pv 7)))
    (pss_cons (ps_if (pt_cmpR op_ne (pe_callB call_len_seq (by rfl) T.b_len PySem.boot_len (pa_cons (pv 6) pa_nil)) (pv 1) (nomark _)) (pss_one (ps_ret (pe_lst pa_nil))) pss_nil)
    (pss_one (ps_ret (pv 6)))))))
theorem run_located {K : PySem.W.Frag} (c : Cc) (ds : List PyData) (d : PyData) (ha : c.a = none) (h : R_located ds d) : Rn c (t_located K) (entry N_located ds) m0 (fun _ _ => d = .none) (fun d' _ => d' = d) := by
  obtain ⟨S, s, n, rfl, hs, h2s, hSl, hb, hn, rfl⟩ := h
  have G := hank_ok h2s hb
  have hlen : (hankM S s).length = s := by unfold hankM; rw [List.length_map, List.length_range]
  obtain ⟨sl, sb⟩ := solvedM_ok G (by omega)
  refine r_seq (r_asg ((n_lcR0 (v := fun j => dI ((S.drop j).take s ++ [0 - S.getD (j + s) 0])) (a_cons (e_var rfl) a_nil) (by omega) (by omega) (by decide) (fun j hj => ?_)).s.is (d' := .list (dR (hankM S s))) ?_) ?_)
  · refine (n_cat (n_sliceI (e_var rfl).q (o_some (e_var rfl)) (o_some (e_I0 (e_var rfl) (e_var rfl)))).q (n_lst (a_cons (e_I0 e_int (e_ixI (e_var rfl).q (e_I0 (e_var rfl) (e_var rfl)) (by omega) (by omega))) a_nil) (by show 1 ≤ _; decide)).q ?_).s.is ?_
    · rw [List.length_map]
      unfold cutI
      rw [List.length_take, List.length_drop]
      show _ + 1 ≤ _
      omega
    · have e1 : (j : Int) + (s : Int) = ((j + s : Nat) : Int) := by omega
      rw [e1, Int.toNat_natCast, cutI_nat _ _ _ (by omega) (by omega), show j + s - j = s by omega]
      show PyData.list (nI _ ++ nI [_]) = _
      rw [nI_append]
  · rw [Int.toNat_natCast]
    show PyData.list _ = PyData.list (List.map dI (List.map _ _))
    rw [List.map_map] <;> rfl
  refine r_seq (r_asg (e_call (a_cons (e_var rfl) a_nil) ⟨hankM S s, rfl, by omega, G, rfl⟩) ?_)
  refine r_seq (r_asg ((n_lcR (f := fun x => !decide (solvedM (hankM S s) = []) && decide (worthM (solvedM (hankM S s)) (x : Int) = 0)) (v := fun x => .int (x : Int)) (a_cons (e_var rfl) a_nil) (by omega) (by omega) (by decide) (fun x hx => ?_) (fun x hx _ => e_var rfl)).s.is (d' := dI (ofN (goneM (solvedM (hankM S s)) n))) ?_) ?_)
  · refine b_and (b_test ((e_neD (e_var rfl) (n_lst a_nil (by decide)).s (shaped_frs _) rfl).is (by rw [eqv_frs]))) fun _ => b_test (e_eqI (e_call (a_cons (e_var rfl) (a_cons (e_var rfl) a_nil)) ⟨_, x, rfl, sl, sb, by omega, rfl⟩) e_int)
  · rw [Int.toNat_natCast]
    show PyData.list (List.map _ _) = PyData.list (List.map PyData.int (List.map _ _))
    rw [List.map_map] <;> rfl
  refine r_seq (r_if (b_test (e_neI (e_lenI (e_var rfl).q) (e_var rfl))) (fun hne => ?_) (fun heq => ?_))
  · refine r_ret (n_lst a_nil (by decide)).s ?_
    have : ¬ (goneM (solvedM (hankM S s)) n).length = s := by
      have : ¬ ((ofN (goneM (solvedM (hankM S s)) n)).length : Int) = (s : Int) := by simpa using hne
      rw [List.length_map] at this
      omega
    unfold locM
    rw [if_neg this] <;> rfl
  · refine r_next (r_ret (e_var rfl) ?_)
    have : (goneM (solvedM (hankM S s)) n).length = s := by
      have : ((ofN (goneM (solvedM (hankM S s)) n)).length : Int) = (s : Int) := by simpa using heq
      rw [List.length_map] at this
      omega
    unfold locM
    rw [if_pos this]
theorem cal_located {P : Program} {w : World} {K : PySem.W.Frag} {mg : Str → Option Value} {base : Heap} {C CR : Addr} (T : Tx K mg C CR) : CalX P w K mg base CX0 4 "located" (spD R_located) :=
  cal_of T.d_located sc_located bi_located (spD_len len_located) (d_located T) (pure_of run_located)

/-! #### is_through -/
def thruM (l : List Int) (ps gone : List Nat) : Bool := (List.range l.length).all fun x => gone.contains x || decide (thrM l ps x = ((l.getD x 0 : Int) : Rat))
theorem contains_ofN (l : List Nat) (x : Nat) : (ofN l).contains (x : Int) = l.contains x := by
  induction l with
  | nil => rfl
  | cons a l ih =>
    show ((a : Int) :: ofN l).contains (x : Int) = _
    rw [List.contains_cons, List.contains_cons, ih]
    congr 1
    rw [Bool.eq_iff_iff]
    simp only [beq_iff_eq]
    omega
theorem eqv_fr (q : Rat) (a : Int) : PyData.eqv (fr q) (.tuple [.int a, .int 1]) = decide (q = (a : Rat)) := by
  show (q.num == a && ((q.den : Int) == 1 && true)) = _
  rw [Bool.and_true, Bool.eq_iff_iff, Bool.and_eq_true, decide_eq_true_eq, beq_iff_eq, beq_iff_eq]
  constructor
  · rintro ⟨h1, h2⟩
    exact Rat.ext h1 (by show q.den = 1; omega)
  · intro h
    subst h
    exact ⟨rfl, rfl⟩
def R_is_through (ds : List PyData) (d : PyData) : Prop := ∃ (l : List Int) (ps gone : List Nat), ds = [dI l, dI (ofN ps), dI (ofN gone)] ∧ l.length ≤ 60 ∧ (∀ a ∈ l, a.natAbs < 2 ^ 110) ∧ ps.length ≤ 7 ∧ (∀ o ∈ ps, o < l.length) ∧ d = .bool (thruM l ps gone)
theorem len_is_through : ∀ ds d, R_is_through ds d → ds.length = 3 := fun _ _ ⟨_, _, _, h, _⟩ => by rw [h] <;> rfl
abbrev s_is_through : Stmt := top 32
abbrev N_is_through : List Str := ["lines", "places", "gone", "x", "line"]
theorem sc_is_through : FnScope N_is_through ["lines", "places", "gone"] (defScope s_is_through) := C8.fnScope_by (by decide +kernel)
theorem bi_is_through : BindsAt "is_through" s_is_through ["lines", "places", "gone"] := fun _ _ _ _ _ _ us hl => match us, hl with | [_, _, _], _ => rfl
def t_is_through (K : PySem.W.Frag) : TS :=
  (tSeq (tFor (iEnum K (tCons (tVar 0) tNil)) (gTup K 2 (gCons (gName 3) (gCons (gName 4) gNil))) (tIfS (tAnd (tTest (tOp (rIn K true) (tVar 3) (tVar 2))) (tTest (tOp (rNeD K) (tCall (spD R_value_through) [] E0 (tCons (tVar 0) (tCons (tVar 1) (tCons (tVar 3) tNil)))) (tTup (tCons (tVar 4) (tCons (tC (.int 1)) tNil)))))) (tRet (tC (.bl false))) tNext))
    (tRet (tC (.bl true))))
theorem d_is_through {P : Program} {w : World} {K : PySem.W.Frag} {mg : Str → Option Value} {base : Heap} {C CR : Addr} (T : Tx K mg C CR) (f : Addr) (cdv : Value) (A : Around) (outer : List Env) (s : Shared) (H : Hp) (E : XK) (hr : Room 3 (A.deeper (envOfC "is_through" (defScope s_is_through) s.heap.objs.size f cdv))) :
    PSs (cxOf CX0 P w K mg base N_is_through "is_through" (defScope s_is_through) f cdv A outer s H E).nox (defBody s_is_through) (t_is_through K) :=
  (pss_cons (ps_for PassesOwn.never rfl (pi_enum (by rfl) T.b_enumerate (pa_cons (pv 0) pa_nil)) (pg_tup rfl (pgs_cons (pg_name (i := 3) sc_is_through.nd rfl (Or.inl rfl)) (pgs_cons (pg_name (i := 4) sc_is_through.nd rfl (Or.inl rfl)) pgs_nil))) (pss_one (ps_if (PW.pt (pw_and (pt_cmpR op_notIn_seq (pv 3) (pv 2) (by rfl)) (pw_and1 (pt_cmpR (op_neD hr.units) (pe_cal (cal_value_through T) hr (by decide) (by rfl) (pa_cons (pv 0) (pa_cons (pv 1) (pa_cons (pv 3) pa_nil)))) (pe_tup (pa_cons (pv 4) (pa_cons pe_int pa_nil))) (nomark _))))) (pss_one (ps_ret pe_bl)) pss_nil)))
    (pss_one (ps_ret pe_bl)))
theorem run_is_through {K : PySem.W.Frag} (c : Cc) (ds : List PyData) (d : PyData) (ha : c.a = none) (h : R_is_through ds d) : Rn c (t_is_through K) (entry N_is_through ds) m0 (fun _ _ => d = .none) (fun d' _ => d' = d) := by
  obtain ⟨l, ps, gone, rfl, hl, hb, hpl, hps, rfl⟩ := h
  refine r_seq (r_forE (e_var rfl) (fun _ => [.val (dI l), .val (dI (ofN ps)), .val (dI (ofN gone)), .no, .no]) (fun _ => m0) (fun i => ∀ j, j < i → (gone.contains j || decide (thrM l ps j = ((l.getD j 0 : Int) : Rat))) = true)
    ⟨.inr rfl, .inr rfl, .inr rfl, .inl rfl, .inl rfl, trivial⟩ rfl (fun j hj => absurd hj (Nat.not_lt_zero _)) (fun B i d hi hG => ?_) (fun hG => ?_))
  · obtain ⟨z, hz, rfl⟩ := nI_get hi
    have hil : i < l.length := (List.getElem?_eq_some_iff.mp hz).1
    have ez : l.getD i 0 = z := by rw [List.getD_eq_getElem?_getD, hz] <;> rfl
    refine r_if (b_and (b_test (e_notin (e_var rfl) (e_var rfl).q)) fun _ => b_test ((e_neD (e_call (a_cons (e_var rfl) (a_cons (e_var rfl) (a_cons (e_var rfl) a_nil))) ⟨l, ps, i, rfl, hl, hb, hpl, hps, by omega, rfl⟩) (e_tup (a_cons (e_var rfl) (a_cons e_int a_nil)) (by show 2 ≤ _; decide)) (shaped_fr _) rfl).is (by rw [eqv_fr]))) (fun hne => ?_) (fun heq => ?_)
    · refine r_ret e_bl ?_
      rw [contains_ofN, Bool.and_eq_true, Bool.not_eq_true', Bool.not_eq_true', decide_eq_false_iff_not] at hne
      have : thruM l ps gone = false := by
        cases e : thruM l ps gone with
        | false => rfl
        | true =>
          have := List.all_eq_true.mp e i (List.mem_range.mpr hil)
          rw [hne.1, Bool.false_or, decide_eq_true_eq, ez] at this
          exact absurd this hne.2
      rw [this]
    · refine r_next ⟨⟨.inr rfl, .inr rfl, .inr rfl, .inl rfl, .inl rfl, trivial⟩, rfl, fun j hj => ?_⟩
      rcases Nat.lt_or_ge j i with h | h
      · exact hG j h
      · have : j = i := by omega
        subst this
        rw [contains_ofN, Bool.and_eq_false_iff, Bool.not_eq_false', Bool.not_eq_false', decide_eq_true_eq] at heq
        rw [Bool.or_eq_true, decide_eq_true_eq, ez]
        exact heq
  · refine r_ret e_bl ?_
    rw [List.length_map] at hG
    have : thruM l ps gone = true := List.all_eq_true.mpr fun j hj => hG j (List.mem_range.mp hj)
    rw [this]
theorem cal_is_through {P : Program} {w : World} {K : PySem.W.Frag} {mg : Str → Option Value} {base : Heap} {C CR : Addr} (T : Tx K mg C CR) : CalX P w K mg base CX0 4 "is_through" (spD R_is_through) :=
  cal_of T.d_is_through sc_is_through bi_is_through (spD_len len_is_through) (d_is_through T) (pure_of run_is_through)

/-! #### mended -/
theorem sum_natAbs {B : Nat} : ∀ l : List Int, (∀ a ∈ l, a.natAbs ≤ B) → l.sum.natAbs ≤ l.length * B
  | [], _ => by show (0 : Int).natAbs ≤ _; omega
  | a :: l, h => by
    have ih := sum_natAbs l fun b hb => h b (List.mem_cons_of_mem _ hb)
    have ha := h a List.mem_cons_self
    rw [List.sum_cons, List.length_cons, Nat.succ_mul]
    omega
theorem parts_lt {l : List Int} (hl : l.length ≤ 60) (hb : ∀ a ∈ l, a.natAbs < 2 ^ 110) {t : Nat} (ht : t < 8) : (partsM l t).sum.natAbs < 2 ^ 520 := by
  have h1 : ∀ a ∈ partsM l t, a.natAbs ≤ 2 ^ 513 := fun a ha => by
    obtain ⟨i, hi, rfl⟩ := List.mem_map.mp ha
    have hi := List.mem_range.mp hi
    have hw := wM_lt hl i hi
    have hz := hb _ (getD_mem hi)
    have hp : ((i : Int) ^ t).natAbs < 2 ^ 42 := by
      rw [Int.natAbs_pow, Int.natAbs_natCast]
      have h1 : i ^ t ≤ 60 ^ t := Nat.pow_le_pow_left (by omega) t
      have h2 : 60 ^ t ≤ 60 ^ 7 := Nat.pow_le_pow_right (by decide) (by omega)
      have h3 : (60 : Nat) ^ 7 < 2 ^ 42 := by decide
      omega
    have hw' : (wM l.length i).natAbs < 2 ^ 361 := Nat.lt_of_lt_of_le hw (pow_mono2 (by omega))
    rw [Int.natAbs_mul, Int.natAbs_mul]
    refine Nat.le_of_lt ?_
    rw [show 513 = (361 + 110) + 42 by decide, Nat.pow_add, Nat.pow_add]
    exact Nat.mul_lt_mul'' (Nat.mul_lt_mul'' hw' hz) hp
  have h2 := sum_natAbs _ h1
  have h3 : (partsM l t).length ≤ 60 := by unfold partsM; rw [List.length_map, List.length_range]; exact hl
  have h4 : (partsM l t).length * 2 ^ 513 ≤ 60 * 2 ^ 513 := Nat.mul_le_mul_right _ h3
  have h5 : 60 * 2 ^ 513 < 2 ^ 520 := by
    rw [show 520 = 513 + 7 by decide, Nat.pow_add, Nat.mul_comm]
    exact Nat.mul_lt_mul_of_pos_left (by decide) (Nat.pow_pos (by decide))
  omega
def placesM (k n : Nat) (gone : List Nat) : List Nat := ((List.range n).filter fun x => !gone.contains x).take k
def tryM (l : List Int) (k s : Nat) : Option (List (Nat × Rat)) :=
  if ((locM (sumsM l (l.length - k)) s l.length).length = s ∧ thruM l (placesM k l.length (locM (sumsM l (l.length - k)) s l.length)) (locM (sumsM l (l.length - k)) s l.length) = true) then
    some ((locM (sumsM l (l.length - k)) s l.length).map fun x => (x, thrM l (placesM k l.length (locM (sumsM l (l.length - k)) s l.length)) x)) else none
def bornM (n k : Nat) : Nat := min 4 ((n - k) / 2)
def mendM (l : List Int) (k : Nat) : Option (List (Nat × Rat)) := (List.range (bornM l.length k + 1)).findSome? (tryM l k)
def mendD : Option (List (Nat × Rat)) → PyData
  | none => .none
  | some xs => .list (xs.map fun p => .tuple [.int (p.1 : Int), fr p.2])
def R_mended (ds : List PyData) (d : PyData) : Prop := ∃ (l : List Int) (k : Nat), ds = [dI l, .int (k : Int)] ∧ 1 ≤ k ∧ k ≤ 7 ∧ k ≤ l.length ∧ l.length ≤ 60 ∧ (∀ a ∈ l, a.natAbs < 2 ^ 110) ∧ d = mendD (mendM l k)
theorem len_mended : ∀ ds d, R_mended ds d → ds.length = 2 := fun _ _ ⟨_, _, h, _⟩ => by rw [h] <;> rfl
theorem cutI_to (l : List Int) (b : Nat) : cutI l none (some (b : Int)) = l.take b := by
  unfold cutI
  rw [HT.sIx_nat, HT.sIx_none, List.drop_zero, Nat.sub_zero]
  by_cases h : b ≤ l.length
  · rw [Nat.min_eq_left h]
  · rw [Nat.min_eq_right (by omega), List.take_of_length_le (Nat.le_refl _), List.take_of_length_le (by omega)]
theorem find_some {α : Type} {n i : Nat} {f : Nat → Option α} {x : α} (hi : i < n) (h1 : f i = some x) (h2 : ∀ j, j < i → f j = none) : (List.range n).findSome? f = some x := by
  induction n with
  | zero => omega
  | succ n ih =>
    rw [List.range_succ, List.findSome?_append]
    by_cases h : i < n
    · rw [ih h] <;> rfl
    · have e : i = n := by omega
      subst e
      have : (List.range i).findSome? f = none := by
        rw [List.findSome?_eq_none_iff]
        exact fun j hj => h2 j (List.mem_range.mp hj)
      rw [this]
      show ([i].findSome? f) = some x
      rw [List.findSome?_cons, h1]
theorem find_someN {α : Type} {n : Nat} {f : Nat → Option α} (h2 : ∀ j, j < n → f j = none) : (List.range n).findSome? f = none := by
  rw [List.findSome?_eq_none_iff]
  exact fun j hj => h2 j (List.mem_range.mp hj)
theorem goneM_lt {nums : List Rat} {n : Nat} : ∀ x ∈ goneM nums n, x < n := fun x hx => List.mem_range.mp (List.mem_filter.mp hx).1
theorem locM_lt {S : List Int} {s n : Nat} : ∀ x ∈ locM S s n, x < n := fun x hx => by
  unfold locM at hx
  split at hx
  · exact goneM_lt x hx
  · exact absurd hx (by simp)
theorem placesM_ok {k n : Nat} {gone : List Nat} : (placesM k n gone).length ≤ k ∧ ∀ o ∈ placesM k n gone, o < n := by
  unfold placesM
  refine ⟨by rw [List.length_take]; omega, fun o ho => ?_⟩
  exact List.mem_range.mp (List.mem_filter.mp (List.mem_of_mem_take ho)).1
abbrev s_mended : Stmt := top 33
abbrev N_mended : List Str := ["lines", "k", "some", "slips", "gone", "places", "x"]
theorem sc_mended : FnScope N_mended ["lines", "k"] (defScope s_mended) := C8.fnScope_by (by decide +kernel)
theorem bi_mended : BindsAt "mended" s_mended ["lines", "k"] := fun _ _ _ _ _ _ us hl => match us, hl with | [_, _], _ => rfl
def t_mended (K : PySem.W.Frag) : TS :=
  (tSeq (tAsg (tCall (spD R_sums) [] E0 (tCons (tVar 0) (tCons (tOp (rI0 fun i j => .int (i - j)) (tCB (rLenS K) (tCons (tVar 0) tNil)) (tVar 1)) tNil))) (gName 2))
    (tSeq (tFor (iRng1 (tCons (tOp (rI0 fun i j => .int (i + j)) (tCall (spD R_borne) [] E0 (tCons (tCB (rLenS K) (tCons (tVar 0) tNil)) (tCons (tVar 1) tNil))) (tC (.int 1))) tNil)) (gName 3) (tSeq (tAsg (tCall (spD R_located) [] E0 (tCons (tVar 2) (tCons (tVar 3) (tCons (tCB (rLenS K) (tCons (tVar 0) tNil)) tNil)))) (gName 4))
    (tSeq (tAsg (tSl (rSlL K) (tLc (iRng1 (tCons (tCB (rLenS K) (tCons (tVar 0) tNil)) tNil)) (gName 6) (tTest (tOp (rIn K true) (tVar 6) (tVar 4))) (tVar 6) [6]) tNoPart (tPart (tVar 1))) (gName 5))
    (tIfS (tAnd (tTest (tOp rEq (tCB (rLenS K) (tCons (tVar 4) tNil)) (tVar 3))) (tB (tCall (spD R_is_through) [] E0 (tCons (tVar 0) (tCons (tVar 5) (tCons (tVar 4) tNil)))))) (tRet (tLc (iList K (tVar 4)) (gName 6) tYes (tTup (tCons (tVar 6) (tCons (tCall (spD R_value_through) [] E0 (tCons (tVar 0) (tCons (tVar 5) (tCons (tVar 6) tNil)))) tNil))) [6])) tNext))))
    (tRet (tC .non))))
theorem d_mended {P : Program} {w : World} {K : PySem.W.Frag} {mg : Str → Option Value} {base : Heap} {C CR : Addr} (T : Tx K mg C CR) (f : Addr) (cdv : Value) (A : Around) (outer : List Env) (s : Shared) (H : Hp) (E : XK) (hr : Room 4 (A.deeper (envOfC "mended" (defScope s_mended) s.heap.objs.size f cdv))) :
    PSs (cxOf CX0 P w K mg base N_mended "mended" (defScope s_mended) f cdv A outer s H E).nox (defBody s_mended) (t_mended K) :=
  (pss_cons (ps_set (i := 2) sc_mended.nd rfl (Or.inl rfl) (pe_cal (cal_sums T) hr (by decide) (by rfl) (pa_cons (pv 0) (pa_cons (pe_op op_sub (pe_callB call_len_seq (by rfl) T.b_len PySem.boot_len (pa_cons (pv 0) pa_nil)) (pv 1)) pa_nil))))
    (pss_cons (ps_for PassesOwn.never rfl (pi_range1 (by rfl) T.b_range (pa_cons (pe_op op_add (pe_cal (cal_borne T) hr (by decide) (by rfl) (pa_cons (pe_callB call_len_seq (by rfl) T.b_len PySem.boot_len (pa_cons (pv 0) pa_nil)) (pa_cons (pv 1) pa_nil))) pe_int) pa_nil)) (pg_name (i := 3) sc_mended.nd rfl (Or.inl rfl)) (pss_cons (ps_set (i := 4) sc_mended.nd rfl (Or.inr rfl) (pe_cal (cal_located T) hr (by decide) (by rfl) (pa_cons (pv 2) (pa_cons (pv 3) (pa_cons (pe_callB call_len_seq (by rfl) T.b_len PySem.boot_len (pa_cons (pv 0) pa_nil)) pa_nil)))))
    (pss_cons (ps_set (i := 5) sc_mended.nd rfl (Or.inr rfl) (pe_slice sl_list (pe_lc (own := [("x", 6)]) rfl sc_mended.nd (pi_range1 (by rfl) T.b_range (pa_cons (pe_callB call_len_seq (by rfl) T.b_len PySem.boot_len (pa_cons (pv 0) pa_nil)) pa_nil)) (blkOk_by (own := [("x", 6)]) (N := N_mended) (sc := defScope s_mended) (by decide +kernel)) (fun _ _ _ _ _ => (pg_name (i := 6) sc_mended.nd rfl (Or.inl rfl))) (fun _ _ _ _ _ => (pts_one (pt_cmpR op_notIn_seq (pv 6) (pv 4) (by rfl)))) (fun _ _ _ _ _ => (pv 6))) po_none (po_some (pv 1))))
    (pss_one (ps_if (PW.pt (pw_and (pt_cmpR op_eq (pe_callB call_len_seq (by rfl) T.b_len PySem.boot_len (pa_cons (pv 4) pa_nil)) (pv 3) (nomark _)) (pw_and1 (pt_val (pe_cal (cal_is_through T) hr (by decide) (by rfl) (pa_cons (pv 0) (pa_cons (pv 5) (pa_cons (pv 4) pa_nil)))))))) (pss_one (ps_ret (pe_lc (own := [("x", 6)]) rfl sc_mended.nd (pi_list (pv 4)) (blkOk_by (own := [("x", 6)]) (N := N_mended) (sc := defScope s_mended) (by decide +kernel)) (fun _ _ _ _ _ => (pg_name (i := 6) sc_mended.nd rfl (Or.inl rfl))) (fun _ _ _ _ _ => pts_nil) (fun _ _ _ _ _ => (pe_tup (pa_cons (pv 6) (pa_cons (pe_cal (cal_value_through T) hr (by decide) (by rfl) (pa_cons (pv 0) (pa_cons (pv 5) (pa_cons (pv 6) pa_nil)))) pa_nil))))))) pss_nil)))))
    (pss_one (ps_ret pe_non))))
theorem run_mended {K : PySem.W.Frag} (c : Cc) (ds : List PyData) (d : PyData) (ha : c.a = none) (h : R_mended ds d) : Rn c (t_mended K) (entry N_mended ds) m0 (fun _ _ => d = .none) (fun d' _ => d' = d) := by
  obtain ⟨l, k, rfl, hk1, hk7, hk, hl, hb, rfl⟩ := h
  have e1 : (l.length : Int) - (k : Int) = ((l.length - k : Nat) : Int) := by omega
  refine r_seq (r_asg (e_call (a_cons (e_var rfl) (a_cons ((e_I0 (e_lenI (e_var rfl).q) (e_var rfl)).is (congrArg PyData.int e1)) a_nil)) ⟨l, l.length - k, rfl, by omega, hl, hb, by omega, rfl⟩) ?_)
  refine r_seq (r_forR (a_cons (e_I0 (e_call (a_cons (e_lenI (e_var rfl).q) (a_cons (e_var rfl) a_nil)) ⟨l.length, k, rfl, hk, rfl⟩) e_int) a_nil) (by omega) (by omega) (fun _ => [.val (dI l), .val (.int (k : Int)), .val (dI (sumsM l (l.length - k))), .no, .no, .no, .no]) (fun _ => m0) (fun s => ∀ j, j < s → tryM l k j = none)
    ⟨.inr rfl, .inr rfl, .inr rfl, .inl rfl, .inl rfl, .inl rfl, .inl rfl, trivial⟩ rfl (fun j hj => absurd hj (Nat.not_lt_zero _)) (fun B s hs hG => ?_) (fun hG => ?_))
  · have hs : s < bornM l.length k + 1 := by
      unfold bornM
      omega
    have hs4 : s ≤ 4 := by unfold bornM at hs; omega
    have hs2 : 2 * s ≤ l.length - k := by unfold bornM at hs; omega
    have hSl : (sumsM l (l.length - k)).length = l.length - k := by unfold sumsM; rw [List.length_map, List.length_range]
    refine r_seq (r_asg (e_call (a_cons (e_var rfl) (a_cons (e_var rfl) (a_cons (e_lenI (e_var rfl).q) a_nil))) ⟨_, s, l.length, rfl, hs4, by omega, by omega, fun j hj => ?_, hl, rfl⟩) ?_)
    · unfold sumsM
      rw [getD_map_range (by omega)]
      exact parts_lt hl hb (by omega)
    have hgl := locM_lt (S := sumsM l (l.length - k)) (s := s) (n := l.length)
    have hdef : tryM l k s = if ((locM (sumsM l (l.length - k)) s l.length).length = s ∧ thruM l (placesM k l.length (locM (sumsM l (l.length - k)) s l.length)) (locM (sumsM l (l.length - k)) s l.length) = true) then
      some ((locM (sumsM l (l.length - k)) s l.length).map fun x => (x, thrM l (placesM k l.length (locM (sumsM l (l.length - k)) s l.length)) x)) else none := rfl
    generalize locM (sumsM l (l.length - k)) s l.length = gone at hgl hdef ⊢
    obtain ⟨hp1, hp2⟩ := placesM_ok (k := k) (n := l.length) (gone := gone)
    refine r_seq (r_asg ((n_sliceI ((n_lcR (f := fun x => !gone.contains x) (v := fun x => .int (x : Int)) (a_cons (e_lenI (e_var rfl).q) a_nil) (by omega) (by omega) (by decide) (fun x hx => b_test ((e_notin (e_var rfl) (e_var rfl).q).is (by rw [contains_ofN]))) (fun x hx _ => e_var rfl)).q.is (ds' := nI (ofN ((List.range l.length).filter fun x => !gone.contains x))) ?_) o_none (o_some (e_var rfl))).s.is (d' := dI (ofN (placesM k l.length gone))) ?_) ?_)
    · rw [Int.toNat_natCast]
      show List.map _ _ = List.map PyData.int (List.map _ _)
      rw [List.map_map] <;> rfl
    · rw [cutI_to]
      show PyData.list (nI (List.take k (List.map _ _))) = PyData.list (nI (List.map _ (List.take k _)))
      rw [List.map_take]
    refine r_if (b_and (b_test (e_eqI (e_lenI (e_var rfl).q) (e_var rfl))) fun _ => b_B (e_call (a_cons (e_var rfl) (a_cons (e_var rfl) (a_cons (e_var rfl) a_nil))) ⟨l, _, _, rfl, hl, hb, by omega, hp2, rfl⟩)) (fun hyes => ?_) (fun hno => ?_)
    · rw [Bool.and_eq_true, decide_eq_true_eq, List.length_map] at hyes
      rw [if_pos ⟨by omega, hyes.2⟩] at hdef
      refine r_ret ((n_lcLI (f := fun _ => true) (v := fun x => .tuple [.int x, fr (thrM l (placesM k l.length gone) x.toNat)]) (e_var rfl).q (by rw [List.length_map]; omega) (by decide) (fun _ _ => b_yes) (fun x hx _ => ?_)).s) ?_
      · obtain ⟨y, hy, rfl⟩ := List.mem_map.mp hx
        have := hgl y hy
        rw [Int.toNat_natCast]
        exact e_tup (a_cons (e_var rfl) (a_cons (e_call (a_cons (e_var rfl) (a_cons (e_var rfl) (a_cons (e_var rfl) a_nil))) ⟨l, _, y, rfl, hl, hb, by omega, hp2, by omega, rfl⟩) a_nil)) (by show 2 ≤ _; decide)
      · have : mendM l k = _ := find_some hs hdef hG
        rw [this, filt_true]
        show PyData.list (List.map _ (List.map _ _)) = PyData.list (List.map _ (List.map _ _))
        rw [List.map_map, List.map_map] <;> rfl
    · rw [Bool.and_eq_false_iff, decide_eq_false_iff_not, List.length_map] at hno
      rw [if_neg (fun z => by
        rcases hno with h | h
        · exact h (by omega)
        · rw [z.2] at h; cases h)] at hdef
      refine r_next ⟨⟨.inr rfl, .inr rfl, .inr rfl, .inl rfl, .inl rfl, .inl rfl, .inl rfl, trivial⟩, rfl, fun j hj => ?_⟩
      rcases Nat.lt_or_ge j s with h | h
      · exact hG j h
      · have : j = s := by omega
        rw [this]
        exact hdef
  · refine r_ret e_non ?_
    have e2 : (((min 4 ((l.length - k) / 2) : Nat) : Int) + 1).toNat = bornM l.length k + 1 := by
      unfold bornM
      omega
    rw [e2] at hG
    have : mendM l k = none := find_someN hG
    rw [this] <;> rfl
theorem cal_mended {P : Program} {w : World} {K : PySem.W.Frag} {mg : Str → Option Value} {base : Heap} {C CR : Addr} (T : Tx K mg C CR) : CalX P w K mg base CX0 5 "mended" (spD R_mended) :=
  cal_of T.d_mended sc_mended bi_mended (spD_len len_mended) (d_mended T) (pure_of run_mended)

end CE
namespace CE
open PySem PySem.Spec PyProof.Rows L2
open Evl (Ex rLenS rListS sz_of sz_lt)

/-! #### size_of -/
def R_size_of (ds : List PyData) (d : PyData) : Prop := ∃ (w : Nat), ds = [.int (w : Int)] ∧ w ≤ 1000 ∧ d = .int (10 ^ w)
theorem len_size_of : ∀ ds d, R_size_of ds d → ds.length = 1 := fun _ _ ⟨_, h, _⟩ => by rw [h] <;> rfl
abbrev s_size_of : Stmt := top 46
abbrev N_size_of : List Str := ["wheels", "found", "wheel"]
theorem sc_size_of : FnScope N_size_of ["wheels"] (defScope s_size_of) := C8.fnScope_by (by decide +kernel)
theorem bi_size_of : BindsAt "size_of" s_size_of ["wheels"] := fun _ _ _ _ _ _ us hl => match us, hl with | [_], _ => rfl
def t_size_of (K : PySem.W.Frag) : TS :=
  (tSeq (tAsg (tC (.int 1)) (gName 1))
    (tSeq (tFor (iRng1 (tCons (tVar 0) tNil)) (gName 2) (tAsg (tOp (rI CMul fun i j => .int (i * j)) (tVar 1) (tC (.int 10))) (gName 1)))
    (tRet (tVar 1))))
theorem d_size_of {P : Program} {w : World} {K : PySem.W.Frag} {mg : Str → Option Value} {base : Heap} {C CR : Addr} (T : Tx K mg C CR) (f : Addr) (cdv : Value) (A : Around) (outer : List Env) (s : Shared) (H : Hp) (E : XK) (hr : Room 0 (A.deeper (envOfC "size_of" (defScope s_size_of) s.heap.objs.size f cdv))) :
    PSs (cxOf CX0 P w K mg base N_size_of "size_of" (defScope s_size_of) f cdv A outer s H E).nox (defBody s_size_of) (t_size_of K) :=
  (pss_cons (ps_set (i := 1) sc_size_of.nd rfl (Or.inl rfl) pe_int)
    (pss_cons (ps_for PassesOwn.never rfl (pi_range1 (by rfl) T.b_range (pa_cons (pv 0) pa_nil)) (pg_name (i := 2) sc_size_of.nd rfl (Or.inl rfl)) (pss_one (ps_set (i := 1) sc_size_of.nd rfl (Or.inl rfl) (pe_op op_mul (pv 1) pe_int))))
    (pss_one (ps_ret (pv 1)))))
theorem run_size_of {K : PySem.W.Frag} (c : Cc) (ds : List PyData) (d : PyData) (ha : c.a = none) (h : R_size_of ds d) : Rn c (t_size_of K) (entry N_size_of ds) m0 (fun _ _ => d = .none) (fun d' _ => d' = d) := by
  obtain ⟨w, rfl, hw, rfl⟩ := h
  refine r_seq (r_asg e_int ?_)
  refine r_seq (r_forR (a_cons (e_var rfl) a_nil) (by omega) (by omega) (fun i => [.val (.int (w : Int)), .val (.int (10 ^ i)), .no]) (fun _ => m0) (fun _ => True)
    ⟨.inr rfl, .inr rfl, .inl rfl, trivial⟩ rfl trivial (fun B i hi _ => ?_) (fun _ => ?_))
  · refine r_asg (e_I (e_var rfl) e_int (.inr ⟨by decide, by decide⟩)) ⟨⟨.inr rfl, .inr ?_, .inl rfl, trivial⟩, rfl, trivial⟩
    rw [Int.pow_succ]
  · refine r_ret (e_var rfl) ?_
    rw [Int.toNat_natCast]
theorem cal_size_of {P : Program} {w : World} {K : PySem.W.Frag} {mg : Str → Option Value} {base : Heap} {C CR : Addr} (T : Tx K mg C CR) : CalX P w K mg base CX0 1 "size_of" (spD R_size_of) :=
  cal_of T.d_size_of sc_size_of bi_size_of (spD_len len_size_of) (d_size_of T) (pure_of run_size_of)

/-! #### told -/
def toldM (l : List Int) : List Int := 0 :: (l.length : Int) :: l
def R_told (ds : List PyData) (d : PyData) : Prop := ∃ (l : List Int), ds = [dI l] ∧ l.length ≤ 1000 ∧ d = dI (toldM l)
theorem len_told : ∀ ds d, R_told ds d → ds.length = 1 := fun _ _ ⟨_, h, _⟩ => by rw [h] <;> rfl
abbrev s_told : Stmt := top 47
abbrev N_told : List Str := ["some"]
theorem sc_told : FnScope N_told ["some"] (defScope s_told) := C8.fnScope_by (by decide +kernel)
theorem bi_told : BindsAt "told" s_told ["some"] := fun _ _ _ _ _ _ us hl => match us, hl with | [_], _ => rfl
def t_told (K : PySem.W.Frag) : TS :=
  (tRet (tOp rCat (tLst (tCons (tC (.int 0)) (tCons (tCB (rLenS K) (tCons (tVar 0) tNil)) tNil))) (tCB (rListS K) (tCons (tVar 0) tNil))))
theorem d_told {P : Program} {w : World} {K : PySem.W.Frag} {mg : Str → Option Value} {base : Heap} {C CR : Addr} (T : Tx K mg C CR) (f : Addr) (cdv : Value) (A : Around) (outer : List Env) (s : Shared) (H : Hp) (E : XK) (hr : Room 0 (A.deeper (envOfC "told" (defScope s_told) s.heap.objs.size f cdv))) :
    PSs (cxOf CX0 P w K mg base N_told "told" (defScope s_told) f cdv A outer s H E).nox (defBody s_told) (t_told K) :=
  (pss_one (ps_ret (pe_op op_cat (pe_lst (pa_cons pe_int (pa_cons (pe_callB call_len_seq (by rfl) T.b_len PySem.boot_len (pa_cons (pv 0) pa_nil)) pa_nil))) (pe_callTy call_list_of (by rfl) T.b_list PyProof.Rows.boot_list (pa_cons (pv 0) pa_nil)))))
theorem run_told {K : PySem.W.Frag} (c : Cc) (ds : List PyData) (d : PyData) (ha : c.a = none) (h : R_told ds d) : Rn c (t_told K) (entry N_told ds) m0 (fun _ _ => d = .none) (fun d' _ => d' = d) := by
  obtain ⟨l, rfl, hl, rfl⟩ := h
  exact r_ret (n_cat (n_lst (a_cons e_int (a_cons (e_lenI (e_var rfl).q) a_nil)) (by show 2 ≤ _; decide)).q (n_list (e_var rfl).q).q (by rw [List.length_map]; show 2 + _ ≤ _; omega)).s rfl
theorem cal_told {P : Program} {w : World} {K : PySem.W.Frag} {mg : Str → Option Value} {base : Heap} {C CR : Addr} (T : Tx K mg C CR) : CalX P w K mg base CX0 1 "told" (spD R_told) :=
  cal_of T.d_told sc_told bi_told (spD_len len_told) (d_told T) (pure_of run_told)

/-! #### first_unlike -/
def firstM (a b : List Int) : Int := match (List.range a.length).find? fun i => decide (a.getD i 0 ≠ b.getD i 0) with
  | some i => (i : Int)
  | none => -1
def R_first_unlike (ds : List PyData) (d : PyData) : Prop := ∃ (a b : List Int), ds = [dI a, dI b] ∧ a.length ≤ 1000 ∧ a.length ≤ b.length ∧ d = .int (firstM a b)
theorem len_first_unlike : ∀ ds d, R_first_unlike ds d → ds.length = 2 := fun _ _ ⟨_, _, h, _⟩ => by rw [h] <;> rfl
abbrev s_first_unlike : Stmt := top 73
abbrev N_first_unlike : List Str := ["one", "other", "place"]
theorem sc_first_unlike : FnScope N_first_unlike ["one", "other"] (defScope s_first_unlike) := C8.fnScope_by (by decide +kernel)
theorem bi_first_unlike : BindsAt "first_unlike" s_first_unlike ["one", "other"] := fun _ _ _ _ _ _ us hl => match us, hl with | [_, _], _ => rfl
def t_first_unlike (K : PySem.W.Frag) : TS :=
  (tSeq (tFor (iRng1 (tCons (tCB (rLenS K) (tCons (tVar 0) tNil)) tNil)) (gName 2) (tIfS (tTest (tOp rNe (tOp (rIxL K) (tVar 0) (tVar 2)) (tOp (rIxL K) (tVar 1) (tVar 2)))) (tRet (tVar 2)) tNext))
    (tRet (tUn (rU fun i => .int (-i)) (tC (.int 1)))))
theorem d_first_unlike {P : Program} {w : World} {K : PySem.W.Frag} {mg : Str → Option Value} {base : Heap} {C CR : Addr} (T : Tx K mg C CR) (f : Addr) (cdv : Value) (A : Around) (outer : List Env) (s : Shared) (H : Hp) (E : XK) (hr : Room 0 (A.deeper (envOfC "first_unlike" (defScope s_first_unlike) s.heap.objs.size f cdv))) :
    PSs (cxOf CX0 P w K mg base N_first_unlike "first_unlike" (defScope s_first_unlike) f cdv A outer s H E).nox (defBody s_first_unlike) (t_first_unlike K) :=
  (pss_cons (ps_for PassesOwn.never rfl (pi_range1 (by rfl) T.b_range (pa_cons (pe_callB call_len_seq (by rfl) T.b_len PySem.boot_len (pa_cons (pv 0) pa_nil)) pa_nil)) (pg_name (i := 2) sc_first_unlike.nd rfl (Or.inl rfl)) (pss_one (ps_if (pt_cmpR op_ne (pe_ix ix_list (pv 0) (pv 2) (fun _ _ => rfl)) (pe_ix ix_list (pv 1) (pv 2) (fun _ _ => rfl)) (nomark _)) (pss_one (ps_ret (pv 2))) pss_nil)))
    (pss_one (ps_ret (pe_un un_neg pe_int))))
theorem run_first_unlike {K : PySem.W.Frag} (c : Cc) (ds : List PyData) (d : PyData) (ha : c.a = none) (h : R_first_unlike ds d) : Rn c (t_first_unlike K) (entry N_first_unlike ds) m0 (fun _ _ => d = .none) (fun d' _ => d' = d) := by
  obtain ⟨a, b, rfl, hl, hb, rfl⟩ := h
  refine r_seq (r_forR (a_cons (e_lenI (e_var rfl).q) a_nil) (by omega) (by omega) (fun _ => [.val (dI a), .val (dI b), .no]) (fun _ => m0) (fun i => ∀ j, j < i → a.getD j 0 = b.getD j 0)
    ⟨.inr rfl, .inr rfl, .inl rfl, trivial⟩ rfl (fun j hj => absurd hj (Nat.not_lt_zero _)) (fun B i hi hG => ?_) (fun hG => ?_))
  · refine r_if (b_test (e_neI (e_ixI (e_var rfl).q (e_var rfl) (by omega) (by omega)) (e_ixI (e_var rfl).q (e_var rfl) (by omega) (by omega)))) (fun hne => ?_) (fun heq => ?_)
    · rw [Int.toNat_natCast] at hne
      have hne : a.getD i 0 ≠ b.getD i 0 := by
        have : ¬ a.getD i 0 = b.getD i 0 := by simpa using hne
        exact this
      refine r_ret (e_var rfl) ?_
      unfold firstM
      rw [find_at (i := i) (f := fun i => decide (a.getD i 0 ≠ b.getD i 0)) (by omega) (decide_eq_true hne) fun j hj => decide_eq_false fun z => z (hG j hj)]
    · rw [Int.toNat_natCast] at heq
      have heq : a.getD i 0 = b.getD i 0 := by simpa using heq
      refine r_next ⟨⟨.inr rfl, .inr rfl, .inl rfl, trivial⟩, rfl, fun j hj => ?_⟩
      rcases Nat.lt_or_ge j i with h | h
      · exact hG j h
      · have : j = i := by omega
        rw [this]
        exact heq
  · rw [Int.toNat_natCast] at hG
    refine r_ret (e_neg e_int) ?_
    unfold firstM
    rw [find_none (f := fun i => decide (a.getD i 0 ≠ b.getD i 0)) fun j hj => decide_eq_false fun z => z (hG j hj)]
theorem cal_first_unlike {P : Program} {w : World} {K : PySem.W.Frag} {mg : Str → Option Value} {base : Heap} {C CR : Addr} (T : Tx K mg C CR) : CalX P w K mg base CX0 1 "first_unlike" (spD R_first_unlike) :=
  cal_of T.d_first_unlike sc_first_unlike bi_first_unlike (spD_len len_first_unlike) (d_first_unlike T) (pure_of run_first_unlike)

/-! #### ask -/
def R_ask (ds : List PyData) (r : Option Int) : Prop := ∃ (b : Bool) (z : Int), ds = [.bool b, .int z] ∧ r = if b = true then none else some z
theorem len_ask : ∀ ds d, R_ask ds d → ds.length = 2 := fun _ _ ⟨_, _, h, _⟩ => by rw [h] <;> rfl
abbrev s_ask : Stmt := top 44
abbrev N_ask : List Str := ["holds", "number"]
theorem sc_ask : FnScope N_ask ["holds", "number"] (defScope s_ask) := C8.fnScope_by (by decide +kernel)
theorem bi_ask : BindsAt "ask" s_ask ["holds", "number"] := fun _ _ _ _ _ _ us hl => match us, hl with | [_, _], _ => rfl
def t_ask (K : PySem.W.Frag) (C CR : Addr) (E : XK) : TS :=
  (tIfS (tNot (tB (tVar 0))) (tRef CR E (tCons (tVar 1) tNil)) tNext)
theorem d_ask {P : Program} {w : World} {K : PySem.W.Frag} {mg : Str → Option Value} {base : Heap} {C CR : Addr} (T : Tx K mg C CR) (f : Addr) (cdv : Value) (A : Around) (outer : List Env) (s : Shared) (H : Hp) (E : XK) (hr : Room 2 (A.deeper (envOfC "ask" (defScope s_ask) s.heap.objs.size f cdv))) :
    PSs (cxOf (L2.CX P w) P w K mg base N_ask "ask" (defScope s_ask) f cdv A outer s H E) (defBody s_ask) (t_ask K C CR E) := by
  have hx : Passes (L2.CX P w) (cxOf (L2.CX P w) P w K mg base N_ask "ask" (defScope s_ask) f cdv A outer s H E) E := passes_call (takes_of rfl rfl rfl rfl) (fun _ _ _ _ h => h)
  exact (pss_one (ps_if (pt_not (pt_val (pv 0))) (pss_one (ps_refuse T.ref rfl hr (takes_of rfl rfl rfl rfl) (by rfl) (pa_cons (pv 1) pa_nil))) pss_nil))
theorem run_ask {K : PySem.W.Frag} {mg : Str → Option Value} {C CR : Addr} (T : Tx K mg C CR) (c : Cc) (E : XK) (ds : List PyData) (r : Option Int) (h : R_ask ds r) (hE : ∀ z e H' m, r = some z → Out c H' m → H' e = some (xdN z) → E (.ref CR) (some e) H') : Rn c (t_ask K C CR E) (entry N_ask ds) m0 (fun _ _ => r = none) (fun _ _ => False) := by
  obtain ⟨b, z, rfl, rfl⟩ := h
  refine r_if (b_not (b_B (e_var rfl))) (fun hb => ?_) (fun hb => ?_)
  · have hb : b = false := by simpa using hb
    subst hb
    exact r_refuse (e_var rfl) fun e H' o he => hE z e H' _ rfl o he
  · have hb : b = true := by simpa using hb
    subst hb
    exact r_next rfl
theorem cal_ask {P : Program} {w : World} {K : PySem.W.Frag} {mg : Str → Option Value} {base : Heap} {C CR : Addr} (T : Tx K mg C CR) : CalX P w K mg base (L2.CX P w) 3 "ask" (spE CR R_ask) :=
  cal_ofX T.d_ask sc_ask bi_ask (spE_len len_ask) (d_ask T) (pureE_of (run_ask T))

/-! #### ask_within -/
/-- ask(b, z), then the rest -/
theorem q_ask {c : Cc} {τ : List SD} {m : Dk} {nx : List SD → Dk → Prop} {rt : PyData → Dk → Prop} {ta : TA} {t : TS} {CR : Addr} {E : XK} {b : Bool} {z : Int} (h : EvA c ta τ m [.bool b, .int z]) (hy : b = true → Rn c t τ m nx rt) (hn : b = false → ∀ e H', Out c H' m → H' e = some (xdN z) → E (.ref CR) (some e) H') : Rn c (tSeq (tDrop (tCall (spE CR R_ask) [] E ta)) t) τ m nx rt := by
  cases b with
  | true => exact r_seq (r_ask h ⟨true, z, rfl, rfl⟩ (hy rfl))
  | false => exact r_seq (r_askNo h ⟨false, z, rfl, rfl⟩ (hn rfl))
theorem q_ask1 {c : Cc} {τ : List SD} {m : Dk} {nx : List SD → Dk → Prop} {rt : PyData → Dk → Prop} {ta : TA} {CR : Addr} {E : XK} {b : Bool} {z : Int} (h : EvA c ta τ m [.bool b, .int z]) (hy : b = true → nx τ m) (hn : b = false → ∀ e H', Out c H' m → H' e = some (xdN z) → E (.ref CR) (some e) H') : Rn c (tDrop (tCall (spE CR R_ask) [] E ta)) τ m nx rt := by
  cases b with
  | true => exact r_ask h ⟨true, z, rfl, rfl⟩ (hy rfl)
  | false => exact r_askNo h ⟨false, z, rfl, rfl⟩ (hn rfl)
def R_ask_within (ds : List PyData) (r : Option Int) : Prop := ∃ (n lo hi : Int), ds = [.int n, .int lo, .int hi] ∧ r = if lo ≤ n ∧ n ≤ hi then none else some (-1)
theorem len_ask_within : ∀ ds d, R_ask_within ds d → ds.length = 3 := fun _ _ ⟨_, _, _, h, _⟩ => by rw [h] <;> rfl
abbrev s_ask_within : Stmt := top 48
abbrev N_ask_within : List Str := ["number", "low", "high"]
theorem sc_ask_within : FnScope N_ask_within ["number", "low", "high"] (defScope s_ask_within) := C8.fnScope_by (by decide +kernel)
theorem bi_ask_within : BindsAt "ask_within" s_ask_within ["number", "low", "high"] := fun _ _ _ _ _ _ us hl => match us, hl with | [_, _, _], _ => rfl
def t_ask_within (K : PySem.W.Frag) (C CR : Addr) (E : XK) : TS :=
  (tDrop (tCall (spE CR R_ask) [] E (tCons (tAndV (tOp (rI0 fun i j => .bl (decide (i ≤ j))) (tVar 1) (tVar 0)) (tOp (rI0 fun i j => .bl (decide (i ≤ j))) (tVar 0) (tVar 2))) (tCons (tUn (rU fun i => .int (-i)) (tC (.int 1))) tNil))))
theorem d_ask_within {P : Program} {w : World} {K : PySem.W.Frag} {mg : Str → Option Value} {base : Heap} {C CR : Addr} (T : Tx K mg C CR) (f : Addr) (cdv : Value) (A : Around) (outer : List Env) (s : Shared) (H : Hp) (E : XK) (hr : Room 3 (A.deeper (envOfC "ask_within" (defScope s_ask_within) s.heap.objs.size f cdv))) :
    PSs (cxOf (L2.CX P w) P w K mg base N_ask_within "ask_within" (defScope s_ask_within) f cdv A outer s H E) (defBody s_ask_within) (t_ask_within K C CR E) := by
  have hx : Passes (L2.CX P w) (cxOf (L2.CX P w) P w K mg base N_ask_within "ask_within" (defScope s_ask_within) f cdv A outer s H E) E := passes_call (takes_of rfl rfl rfl rfl) (fun _ _ _ _ h => h)
  exact (pss_one (ps_expr (pe_calX (cal_ask T) hr (by decide) (by rfl) hx (pa_cons (pe_and (pe_cmpR op_le (pv 1) (pv 0) (nomark _)) (pe_one (pe_cmpR op_le (pv 0) (pv 2) (nomark _)))) (pa_cons (pe_un un_neg pe_int) pa_nil)))))
theorem run_ask_within {K : PySem.W.Frag} {mg : Str → Option Value} {C CR : Addr} (T : Tx K mg C CR) (c : Cc) (E : XK) (ds : List PyData) (r : Option Int) (h : R_ask_within ds r) (hE : ∀ z e H' m, r = some z → Out c H' m → H' e = some (xdN z) → E (.ref CR) (some e) H') : Rn c (t_ask_within K C CR E) (entry N_ask_within ds) m0 (fun _ _ => r = none) (fun _ _ => False) := by
  obtain ⟨n, lo, hi, rfl, rfl⟩ := h
  refine q_ask1 (a_cons (e_andV (e_C0 (e_var rfl) (e_var rfl)) fun _ => e_C0 (e_var rfl) (e_var rfl)) (a_cons (e_neg e_int) a_nil)) (fun hb => ?_) (fun hb e H' o he => hE _ e H' _ ?_ o he)
  · rw [Bool.and_eq_true, decide_eq_true_eq, decide_eq_true_eq] at hb
    rw [if_pos hb]
  · rw [Bool.and_eq_false_iff, decide_eq_false_iff_not, decide_eq_false_iff_not] at hb
    rw [if_neg (by omega)]
theorem q_within {c : Cc} {τ : List SD} {m : Dk} {nx : List SD → Dk → Prop} {rt : PyData → Dk → Prop} {ta : TA} {t : TS} {CR : Addr} {E : XK} {n lo hi : Int} (h : EvA c ta τ m [.int n, .int lo, .int hi]) (hy : lo ≤ n ∧ n ≤ hi → Rn c t τ m nx rt) (hn : ¬ (lo ≤ n ∧ n ≤ hi) → ∀ e H', Out c H' m → H' e = some (xdN (-1)) → E (.ref CR) (some e) H') : Rn c (tSeq (tDrop (tCall (spE CR R_ask_within) [] E ta)) t) τ m nx rt := by
  by_cases hb : lo ≤ n ∧ n ≤ hi
  · exact r_seq (r_ask h ⟨n, lo, hi, rfl, (if_pos hb).symm⟩ (hy hb))
  · exact r_seq (r_askNo h ⟨n, lo, hi, rfl, (if_neg hb).symm⟩ (hn hb))
theorem cal_ask_within {P : Program} {w : World} {K : PySem.W.Frag} {mg : Str → Option Value} {base : Heap} {C CR : Addr} (T : Tx K mg C CR) : CalX P w K mg base (L2.CX P w) 4 "ask_within" (spE CR R_ask_within) :=
  cal_ofX T.d_ask_within sc_ask_within bi_ask_within (spE_len len_ask_within) (d_ask_within T) (pureE_of (run_ask_within T))

/-! #### ask_numbers -/
def R_ask_numbers (ds : List PyData) (r : Option Int) : Prop := ∃ (l : List Int), ds = [dI l] ∧ r = if l.all Vbcead.isGreat = true then none else some (-1)
theorem len_ask_numbers : ∀ ds d, R_ask_numbers ds d → ds.length = 1 := fun _ _ ⟨_, h, _⟩ => by rw [h] <;> rfl
theorem great_iff (z : Int) : Vbcead.isGreat z = true ↔ 0 - 1000000000000000000 ≤ z ∧ z ≤ 1000000000000000000 := by
  unfold Vbcead.isGreat VbceCore.isBetween
  rw [Bool.and_eq_true, decide_eq_true_eq, decide_eq_true_eq]
  have : Vbcead.GREAT = 1000000000000000000 := by decide
  rw [this]
  omega
abbrev s_ask_numbers : Stmt := top 49
abbrev N_ask_numbers : List Str := ["some", "number"]
theorem sc_ask_numbers : FnScope N_ask_numbers ["some"] (defScope s_ask_numbers) := C8.fnScope_by (by decide +kernel)
theorem bi_ask_numbers : BindsAt "ask_numbers" s_ask_numbers ["some"] := fun _ _ _ _ _ _ us hl => match us, hl with | [_], _ => rfl
def t_ask_numbers (K : PySem.W.Frag) (C CR : Addr) (E : XK) : TS :=
  (tFor (iList K (tVar 0)) (gName 1) (tDrop (tCall (spE CR R_ask_within) [] E (tCons (tVar 1) (tCons (tOp (rI0 fun i j => .int (i - j)) (tC (.int 0)) (tC (.int 1000000000000000000))) (tCons (tC (.int 1000000000000000000)) tNil))))))
theorem d_ask_numbers {P : Program} {w : World} {K : PySem.W.Frag} {mg : Str → Option Value} {base : Heap} {C CR : Addr} (T : Tx K mg C CR) (f : Addr) (cdv : Value) (A : Around) (outer : List Env) (s : Shared) (H : Hp) (E : XK) (hr : Room 4 (A.deeper (envOfC "ask_numbers" (defScope s_ask_numbers) s.heap.objs.size f cdv))) :
    PSs (cxOf (L2.CX P w) P w K mg base N_ask_numbers "ask_numbers" (defScope s_ask_numbers) f cdv A outer s H E) (defBody s_ask_numbers) (t_ask_numbers K C CR E) := by
  have hx : Passes (L2.CX P w) (cxOf (L2.CX P w) P w K mg base N_ask_numbers "ask_numbers" (defScope s_ask_numbers) f cdv A outer s H E) E := passes_call (takes_of rfl rfl rfl rfl) (fun _ _ _ _ h => h)
  exact (pss_one (ps_for (passes_of rfl) rfl (pi_list (pv 0)) (pg_name (i := 1) sc_ask_numbers.nd rfl (Or.inl rfl)) (pss_one (ps_expr (pe_calX (cal_ask_within T) hr (by decide) (by rfl) hx (pa_cons (pv 1) (pa_cons (pe_op op_sub pe_int (pe_gI (by rfl) T.g_MOST_NUMBER)) (pa_cons (pe_gI (by rfl) T.g_MOST_NUMBER) pa_nil))))))))
theorem run_ask_numbers {K : PySem.W.Frag} {mg : Str → Option Value} {C CR : Addr} (T : Tx K mg C CR) (c : Cc) (E : XK) (ds : List PyData) (r : Option Int) (h : R_ask_numbers ds r) (hE : ∀ z e H' m, r = some z → Out c H' m → H' e = some (xdN z) → E (.ref CR) (some e) H') : Rn c (t_ask_numbers K C CR E) (entry N_ask_numbers ds) m0 (fun _ _ => r = none) (fun _ _ => False) := by
  obtain ⟨l, rfl, rfl⟩ := h
  refine r_forLX (e_var rfl) (fun _ => [.val (dI l), .no]) (fun _ => m0) (fun i => ∀ j, j < i → Vbcead.isGreat (l.getD j 0) = true)
    ⟨.inr rfl, .inl rfl, trivial⟩ rfl (fun j hj => absurd hj (Nat.not_lt_zero _)) (fun B i d eB hi hG => ?_) (fun hG => ?_)
  · obtain ⟨z, hz, rfl⟩ := nI_get hi
    have ez : l.getD i 0 = z := by rw [List.getD_eq_getElem?_getD, hz] <;> rfl
    by_cases hg : Vbcead.isGreat z = true
    · refine r_ask (a_cons (e_var rfl) (a_cons (e_I0 e_int e_int) (a_cons e_int a_nil))) ⟨_, _, _, rfl, (if_pos ((great_iff z).mp hg)).symm⟩ ⟨⟨.inr rfl, .inl rfl, trivial⟩, rfl, fun j hj => ?_⟩
      rcases Nat.lt_or_ge j i with h | h
      · exact hG j h
      · have : j = i := by omega
        rw [this, ez]
        exact hg
    · refine r_askNo (a_cons (e_var rfl) (a_cons (e_I0 e_int e_int) (a_cons e_int a_nil))) ⟨_, _, _, rfl, (if_neg fun q => hg ((great_iff z).mpr q)).symm⟩ fun e H' o he => hE _ e H' _ ?_ ⟨fun b o' q => o.base b o' (eB b o' q), o.dk⟩ he
      rw [if_neg fun q => hg (List.all_eq_true.mp q z (List.mem_of_getElem? hz))]
  · rw [List.length_map] at hG
    show _ = none
    rw [if_pos]
    refine List.all_eq_true.mpr fun z hz => ?_
    obtain ⟨i, hi, rfl⟩ := List.getElem_of_mem hz
    have := hG i hi
    rw [List.getD_eq_getElem?_getD, List.getElem?_eq_getElem hi] at this
    exact this
theorem q_numbers {c : Cc} {τ : List SD} {m : Dk} {nx : List SD → Dk → Prop} {rt : PyData → Dk → Prop} {ta : TA} {t : TS} {CR : Addr} {E : XK} {l : List Int} (h : EvA c ta τ m [dI l]) (hy : l.all Vbcead.isGreat = true → Rn c t τ m nx rt) (hn : ¬ l.all Vbcead.isGreat = true → ∀ e H', Out c H' m → H' e = some (xdN (-1)) → E (.ref CR) (some e) H') : Rn c (tSeq (tDrop (tCall (spE CR R_ask_numbers) [] E ta)) t) τ m nx rt := by
  by_cases hb : l.all Vbcead.isGreat = true
  · exact r_seq (r_ask h ⟨l, rfl, (if_pos hb).symm⟩ (hy hb))
  · exact r_seq (r_askNo h ⟨l, rfl, (if_neg hb).symm⟩ (hn hb))
theorem cal_ask_numbers {P : Program} {w : World} {K : PySem.W.Frag} {mg : Str → Option Value} {base : Heap} {C CR : Addr} (T : Tx K mg C CR) : CalX P w K mg base (L2.CX P w) 5 "ask_numbers" (spE CR R_ask_numbers) :=
  cal_ofX T.d_ask_numbers sc_ask_numbers bi_ask_numbers (spE_len len_ask_numbers) (d_ask_numbers T) (pureE_of (run_ask_numbers T))

/-! #### ask_start -/
def StartOk (l : List Int) : Prop := 1 ≤ l.length ∧ l.length ≤ 7 ∧ l.all Vbcead.isGreat = true
instance (l : List Int) : Decidable (StartOk l) := by unfold StartOk; infer_instance
def R_ask_start (ds : List PyData) (r : Option Int) : Prop := ∃ (l : List Int), ds = [dI l] ∧ r = if StartOk l then none else some (-1)
theorem len_ask_start : ∀ ds d, R_ask_start ds d → ds.length = 1 := fun _ _ ⟨_, h, _⟩ => by rw [h] <;> rfl
abbrev s_ask_start : Stmt := top 50
abbrev N_ask_start : List Str := ["some"]
theorem sc_ask_start : FnScope N_ask_start ["some"] (defScope s_ask_start) := C8.fnScope_by (by decide +kernel)
theorem bi_ask_start : BindsAt "ask_start" s_ask_start ["some"] := fun _ _ _ _ _ _ us hl => match us, hl with | [_], _ => rfl
def t_ask_start (K : PySem.W.Frag) (C CR : Addr) (E : XK) : TS :=
  (tSeq (tDrop (tCall (spE CR R_ask) [] E (tCons (tAndV (tOp (rI0 fun i j => .bl (decide (i ≤ j))) (tC (.int 1)) (tCB (rLenS K) (tCons (tVar 0) tNil))) (tOp (rI0 fun i j => .bl (decide (i ≤ j))) (tCB (rLenS K) (tCons (tVar 0) tNil)) (tC (.int 7)))) (tCons (tUn (rU fun i => .int (-i)) (tC (.int 1))) tNil))))
    (tDrop (tCall (spE CR R_ask_numbers) [] E (tCons (tVar 0) tNil))))
theorem d_ask_start {P : Program} {w : World} {K : PySem.W.Frag} {mg : Str → Option Value} {base : Heap} {C CR : Addr} (T : Tx K mg C CR) (f : Addr) (cdv : Value) (A : Around) (outer : List Env) (s : Shared) (H : Hp) (E : XK) (hr : Room 5 (A.deeper (envOfC "ask_start" (defScope s_ask_start) s.heap.objs.size f cdv))) :
    PSs (cxOf (L2.CX P w) P w K mg base N_ask_start "ask_start" (defScope s_ask_start) f cdv A outer s H E) (defBody s_ask_start) (t_ask_start K C CR E) := by
  have hx : Passes (L2.CX P w) (cxOf (L2.CX P w) P w K mg base N_ask_start "ask_start" (defScope s_ask_start) f cdv A outer s H E) E := passes_call (takes_of rfl rfl rfl rfl) (fun _ _ _ _ h => h)
  exact (pss_cons (ps_expr (pe_calX (cal_ask T) hr (by decide) (by rfl) hx (pa_cons (pe_and (pe_cmpR op_le pe_int (pe_callB call_len_seq (by rfl) T.b_len PySem.boot_len (pa_cons (pv 0) pa_nil)) (nomark _)) (pe_one (pe_cmpR op_le (pe_callB call_len_seq (by rfl) T.b_len PySem.boot_len (pa_cons (pv 0) pa_nil)) (pe_gI (by rfl) T.g_MOST_COLUMNS) (nomark _)))) (pa_cons (pe_un un_neg pe_int) pa_nil))))
    (pss_one (ps_expr (pe_calX (cal_ask_numbers T) hr (by decide) (by rfl) hx (pa_cons (pv 0) pa_nil)))))
theorem run_ask_start {K : PySem.W.Frag} {mg : Str → Option Value} {C CR : Addr} (T : Tx K mg C CR) (c : Cc) (E : XK) (ds : List PyData) (r : Option Int) (h : R_ask_start ds r) (hE : ∀ z e H' m, r = some z → Out c H' m → H' e = some (xdN z) → E (.ref CR) (some e) H') : Rn c (t_ask_start K C CR E) (entry N_ask_start ds) m0 (fun _ _ => r = none) (fun _ _ => False) := by
  obtain ⟨l, rfl, rfl⟩ := h
  refine q_ask (a_cons (e_andV (e_C0 e_int (e_lenI (e_var rfl).q)) fun _ => e_C0 (e_lenI (e_var rfl).q) e_int) (a_cons (e_neg e_int) a_nil)) (fun hb => ?_) (fun hb e H' o he => hE _ e H' _ ?_ o he)
  · rw [Bool.and_eq_true, decide_eq_true_eq, decide_eq_true_eq] at hb
    by_cases hg : l.all Vbcead.isGreat = true
    · refine r_ask (a_cons (e_var rfl) a_nil) ⟨l, rfl, (if_pos hg).symm⟩ ?_
      rw [if_pos ⟨by omega, by omega, hg⟩]
    · refine r_askNo (a_cons (e_var rfl) a_nil) ⟨l, rfl, (if_neg hg).symm⟩ fun e H' o he => hE _ e H' _ ?_ o he
      rw [if_neg fun q => hg q.2.2]
  · rw [Bool.and_eq_false_iff, decide_eq_false_iff_not, decide_eq_false_iff_not] at hb
    rw [if_neg fun q => by obtain ⟨q1, q2, _⟩ := q; omega]
theorem q_start {c : Cc} {τ : List SD} {m : Dk} {nx : List SD → Dk → Prop} {rt : PyData → Dk → Prop} {ta : TA} {t : TS} {CR : Addr} {E : XK} {l : List Int} (h : EvA c ta τ m [dI l]) (hy : StartOk l → Rn c t τ m nx rt) (hn : ¬ StartOk l → ∀ e H', Out c H' m → H' e = some (xdN (-1)) → E (.ref CR) (some e) H') : Rn c (tSeq (tDrop (tCall (spE CR R_ask_start) [] E ta)) t) τ m nx rt := by
  by_cases hb : StartOk l
  · exact r_seq (r_ask h ⟨l, rfl, (if_pos hb).symm⟩ (hy hb))
  · exact r_seq (r_askNo h ⟨l, rfl, (if_neg hb).symm⟩ (hn hb))
theorem cal_ask_start {P : Program} {w : World} {K : PySem.W.Frag} {mg : Str → Option Value} {base : Heap} {C CR : Addr} (T : Tx K mg C CR) : CalX P w K mg base (L2.CX P w) 6 "ask_start" (spE CR R_ask_start) :=
  cal_ofX T.d_ask_start sc_ask_start bi_ask_start (spE_len len_ask_start) (d_ask_start T) (pureE_of (run_ask_start T))

/-! #### ask_k -/
/-- how a desk stands -/
structure Good (m : Dk) : Prop where
  pos : 0 < m.size
  top : m.size ≤ 10 ^ 30
  cl : m.cols.length ≤ 7
  cb : ∀ a ∈ m.cols, 0 ≤ a ∧ a < m.size
  ll : m.lines.length ≤ 60
  lb : ∀ a ∈ m.lines, a.natAbs < 2 ^ 110
def kF (m : Dk) (k more : Int) : Res := if 1 ≤ k ∧ k ≤ 7 then (if k + more ≤ (m.lines.length : Int) then .ok .none m else .no (-5)) else .no (-1)
def R_ask_k (m : Dk) (ds : List PyData) (r : Res) : Prop := ∃ (k more : Int), ds = [.int k, .int more] ∧ r = kF m k more
theorem len_ask_k : ∀ m ds r, R_ask_k m ds r → ds.length + 1 = 3 := fun _ _ _ ⟨_, _, h, _⟩ => by rw [h] <;> rfl
abbrev s_ask_k : Stmt := top 51
abbrev N_ask_k : List Str := ["desk", "k", "more"]
theorem sc_ask_k : FnScope N_ask_k ["desk", "k", "more"] (defScope s_ask_k) := C8.fnScope_by (by decide +kernel)
theorem bi_ask_k : BindsAt "ask_k" s_ask_k ["desk", "k", "more"] := fun _ _ _ _ _ _ us hl => match us, hl with | [_, _, _], _ => rfl
def t_ask_k (K : PySem.W.Frag) (C CR : Addr) (E : XK) : TS :=
  (tSeq (tDrop (tCall (spE CR R_ask_within) [] E (tCons (tVar 1) (tCons (tC (.int 1)) (tCons (tC (.int 7)) tNil)))))
    (tDrop (tCall (spE CR R_ask) [] E (tCons (tOp (rI0 fun i j => .bl (decide (j ≤ i))) (tCB (rLenS K) (tCons (tFld K (tVar 0) "lines") tNil)) (tOp (rI0 fun i j => .int (i + j)) (tVar 1) (tVar 2))) (tCons (tUn (rU fun i => .int (-i)) (tC (.int 5))) tNil)))))
theorem d_ask_k {P : Program} {w : World} {K : PySem.W.Frag} {mg : Str → Option Value} {base : Heap} {C CR : Addr} (T : Tx K mg C CR) (f : Addr) (cdv : Value) (A : Around) (outer : List Env) (s : Shared) (H : Hp) (E : XK) (hr : Room 4 (A.deeper (envOfC "ask_k" (defScope s_ask_k) s.heap.objs.size f cdv))) :
    PSs (cxOf (L2.CX P w) P w K mg base N_ask_k "ask_k" (defScope s_ask_k) f cdv A outer s H E) (defBody s_ask_k) (t_ask_k K C CR E) := by
  have hx : Passes (L2.CX P w) (cxOf (L2.CX P w) P w K mg base N_ask_k "ask_k" (defScope s_ask_k) f cdv A outer s H E) E := passes_call (takes_of rfl rfl rfl rfl) (fun _ _ _ _ h => h)
  exact (pss_cons (ps_expr (pe_calX (cal_ask_within T) hr (by decide) (by rfl) hx (pa_cons (pv 1) (pa_cons pe_int (pa_cons (pe_gI (by rfl) T.g_MOST_COLUMNS) pa_nil)))))
    (pss_one (ps_expr (pe_calX (cal_ask T) hr (by decide) (by rfl) hx (pa_cons (pe_cmpR op_ge (pe_callB call_len_seq (by rfl) T.b_len PySem.boot_len (pa_cons (pe_fld (pv 0) rfl) pa_nil)) (pe_op op_add (pv 1) (pv 2)) (nomark _)) (pa_cons (pe_un un_neg pe_int) pa_nil))))))
theorem run_ask_k {K : PySem.W.Frag} {mg : Str → Option Value} {C CR : Addr} (T : Tx K mg C CR) (c : Cc) (E : XK) (m : Dk) (ds : List PyData) (r : Res) (hc : c.C = C) (hm : c.mu = true) (h : R_ask_k m ds r) (hE : ∀ z e H', r = .no z → Out c H' m → H' e = some (xdN z) → E (.ref CR) (some e) H') :
    Rn c (t_ask_k K C CR E) (entryK N_ask_k ds) m (fun _ m' => r = .ok .none m') (fun d m' => r = .ok d m') := by
  obtain ⟨k, more, rfl, rfl⟩ := h
  refine q_within (a_cons (e_var rfl) (a_cons e_int (a_cons e_int a_nil))) (fun hb => ?_) (fun hb e H' o he => hE _ e H' (if_neg hb) o he)
  refine q_ask1 (a_cons (e_C0 (g := fun i j => decide (j ≤ i)) (e_lenI (e_lines T hc rfl).q) (e_I0 (e_var rfl) (e_var rfl))) (a_cons (e_neg e_int) a_nil)) (fun h5 => ?_) (fun h5 e H' o he => hE _ e H' ?_ o he)
  · unfold kF
    rw [if_pos hb, if_pos (of_decide_eq_true h5)]
  · unfold kF
    rw [if_pos hb, if_neg (of_decide_eq_false h5)]
theorem q_k {c : Cc} {τ : List SD} {m : Dk} {nx : List SD → Dk → Prop} {rt : PyData → Dk → Prop} {ta : TA} {t : TS} {C CR : Addr} {E : XK} {k more : Int} (hc : c.C = C) (hm : c.mu = true) (hd : τ[0]? = some .desk) (h : EvA c ta τ m [.int k, .int more]) (hy : 1 ≤ k ∧ k ≤ 7 → k + more ≤ (m.lines.length : Int) → Rn c t τ m nx rt)
    (hn : ∀ z, kF m k more = .no z → ∀ e H', Out c H' m → H' e = some (xdN z) → E (.ref CR) (some e) H') : Rn c (tSeq (tDrop (tCall (spK C CR R_ask_k) [] E (tCons (tVar 0) ta))) t) τ m nx rt := by
  by_cases h1 : 1 ≤ k ∧ k ≤ 7
  · by_cases h2 : k + more ≤ (m.lines.length : Int)
    · exact r_seq (r_callK hc hm hd h ⟨k, more, rfl, by unfold kF; rw [if_pos h1, if_pos h2]⟩ (hy h1 h2))
    · have e : kF m k more = .no (-5) := by unfold kF; rw [if_pos h1, if_neg h2]
      exact r_seq (r_callKNo hc hm hd h ⟨k, more, rfl, e.symm⟩ (hn _ e))
  · have e : kF m k more = .no (-1) := if_neg h1
    exact r_seq (r_callKNo hc hm hd h ⟨k, more, rfl, e.symm⟩ (hn _ e))
theorem cal_ask_k {P : Program} {w : World} {K : PySem.W.Frag} {mg : Str → Option Value} {base : Heap} {C CR : Addr} (T : Tx K mg C CR) : CalX P w K mg base (L2.CX P w) 5 "ask_k" (spK C CR R_ask_k) :=
  cal_ofX T.d_ask_k sc_ask_k bi_ask_k (spK_len len_ask_k) (d_ask_k T) (pureK_of (run_ask_k T))

/-! #### ask_columns -/
def colF (m : Dk) : Res := if m.cols = [] then .no (-6) else .ok .none m
def R_ask_columns (m : Dk) (ds : List PyData) (r : Res) : Prop := ds = [] ∧ r = colF m
theorem len_ask_columns : ∀ m ds r, R_ask_columns m ds r → ds.length + 1 = 1 := fun _ _ _ ⟨h, _⟩ => by rw [h] <;> rfl
abbrev s_ask_columns : Stmt := top 52
abbrev N_ask_columns : List Str := ["desk"]
theorem sc_ask_columns : FnScope N_ask_columns ["desk"] (defScope s_ask_columns) := C8.fnScope_by (by decide +kernel)
theorem bi_ask_columns : BindsAt "ask_columns" s_ask_columns ["desk"] := fun _ _ _ _ _ _ us hl => match us, hl with | [_], _ => rfl
def t_ask_columns (K : PySem.W.Frag) (C CR : Addr) (E : XK) : TS :=
  (tDrop (tCall (spE CR R_ask) [] E (tCons (tOp (rNeD K) (tFld K (tVar 0) "columns") (tLst tNil)) (tCons (tUn (rU fun i => .int (-i)) (tC (.int 6))) tNil))))
theorem d_ask_columns {P : Program} {w : World} {K : PySem.W.Frag} {mg : Str → Option Value} {base : Heap} {C CR : Addr} (T : Tx K mg C CR) (f : Addr) (cdv : Value) (A : Around) (outer : List Env) (s : Shared) (H : Hp) (E : XK) (hr : Room 3 (A.deeper (envOfC "ask_columns" (defScope s_ask_columns) s.heap.objs.size f cdv))) :
    PSs (cxOf (L2.CX P w) P w K mg base N_ask_columns "ask_columns" (defScope s_ask_columns) f cdv A outer s H E) (defBody s_ask_columns) (t_ask_columns K C CR E) := by
  have hx : Passes (L2.CX P w) (cxOf (L2.CX P w) P w K mg base N_ask_columns "ask_columns" (defScope s_ask_columns) f cdv A outer s H E) E := passes_call (takes_of rfl rfl rfl rfl) (fun _ _ _ _ h => h)
  exact (pss_one (ps_expr (pe_calX (cal_ask T) hr (by decide) (by rfl) hx (pa_cons (pe_cmpR (op_neD hr.units) (pe_fld (pv 0) rfl) (pe_lst pa_nil) (nomark _)) (pa_cons (pe_un un_neg pe_int) pa_nil)))))
theorem run_ask_columns {K : PySem.W.Frag} {mg : Str → Option Value} {C CR : Addr} (T : Tx K mg C CR) (c : Cc) (E : XK) (m : Dk) (ds : List PyData) (r : Res) (hc : c.C = C) (hm : c.mu = true) (h : R_ask_columns m ds r) (hE : ∀ z e H', r = .no z → Out c H' m → H' e = some (xdN z) → E (.ref CR) (some e) H') :
    Rn c (t_ask_columns K C CR E) (entryK N_ask_columns ds) m (fun _ m' => r = .ok .none m') (fun d m' => r = .ok d m') := by
  obtain ⟨rfl, rfl⟩ := h
  refine q_ask1 (a_cons (e_neL (k := []) (e_cols T hc rfl) (n_lst a_nil (by decide)).s) (a_cons (e_neg e_int) a_nil)) (fun hb => ?_) (fun hb e H' o he => hE _ e H' ?_ o he)
  · have : ¬ m.cols = [] := by simpa using hb
    exact if_neg this
  · have : m.cols = [] := by simpa using hb
    exact if_pos this
theorem q_cols {c : Cc} {τ : List SD} {m : Dk} {nx : List SD → Dk → Prop} {rt : PyData → Dk → Prop} {t : TS} {C CR : Addr} {E : XK} (hc : c.C = C) (hm : c.mu = true) (hd : τ[0]? = some .desk) (hy : m.cols ≠ [] → Rn c t τ m nx rt)
    (hn : m.cols = [] → ∀ e H', Out c H' m → H' e = some (xdN (-6)) → E (.ref CR) (some e) H') : Rn c (tSeq (tDrop (tCall (spK C CR R_ask_columns) [] E (tCons (tVar 0) tNil))) t) τ m nx rt := by
  by_cases h1 : m.cols = []
  · exact r_seq (r_callKNo hc hm hd a_nil ⟨rfl, (if_pos h1).symm⟩ (hn h1))
  · exact r_seq (r_callK hc hm hd a_nil ⟨rfl, (if_neg h1).symm⟩ (hy h1))
theorem cal_ask_columns {P : Program} {w : World} {K : PySem.W.Frag} {mg : Str → Option Value} {base : Heap} {C CR : Addr} (T : Tx K mg C CR) : CalX P w K mg base (L2.CX P w) 4 "ask_columns" (spK C CR R_ask_columns) :=
  cal_ofX T.d_ask_columns sc_ask_columns bi_ask_columns (spK_len len_ask_columns) (d_ask_columns T) (pureK_of (run_ask_columns T))

end CE
namespace CE
open PySem PySem.Spec PyProof.Rows L2
open Evl (Ex rLenS rListS sz_of sz_lt)

/-! #### wheels -/
def wheelsF (m : Dk) (w : Int) : Res := if 1 ≤ w ∧ w ≤ 30 then .ok (dI [0]) ⟨10 ^ w.toNat, [], []⟩ else .no (-1)
def R_wheels (m : Dk) (ds : List PyData) (r : Res) : Prop := ∃ w : Int, ds = [.int w] ∧ r = wheelsF m w
theorem len_wheels : ∀ m ds r, R_wheels m ds r → ds.length + 1 = 2 := fun _ _ _ ⟨_, h, _⟩ => by rw [h] <;> rfl
abbrev s_wheels : Stmt := top 53
abbrev N_wheels : List Str := ["desk", "w"]
theorem sc_wheels : FnScope N_wheels ["desk", "w"] (defScope s_wheels) := C8.fnScope_by (by decide +kernel)
theorem bi_wheels : BindsAt "wheels" s_wheels ["desk", "w"] := fun _ _ _ _ _ _ us hl => match us, hl with | [_, _], _ => rfl
def t_wheels (K : PySem.W.Frag) (C CR : Addr) (E : XK) : TS :=
  (tSeq (tDrop (tCall (spE CR R_ask_within) [] E (tCons (tVar 1) (tCons (tC (.int 1)) (tCons (tC (.int 30)) tNil)))))
    (tSeq (sFld K (tVar 0) (tCall (spD R_size_of) [] E0 (tCons (tVar 1) tNil)) "size")
    (tSeq (sFld K (tVar 0) (tLst tNil) "columns")
    (tSeq (sFld K (tVar 0) (tLst tNil) "lines")
    (tRet (tLst (tCons (tC (.int 0)) tNil)))))))
theorem d_wheels {P : Program} {w : World} {K : PySem.W.Frag} {mg : Str → Option Value} {base : Heap} {C CR : Addr} (T : Tx K mg C CR) (f : Addr) (cdv : Value) (A : Around) (outer : List Env) (s : Shared) (H : Hp) (E : XK) (hr : Room 4 (A.deeper (envOfC "wheels" (defScope s_wheels) s.heap.objs.size f cdv))) :
    PSs (cxOf (L2.CX P w) P w K mg base N_wheels "wheels" (defScope s_wheels) f cdv A outer s H E) (defBody s_wheels) (t_wheels K C CR E) := by
  have hx : Passes (L2.CX P w) (cxOf (L2.CX P w) P w K mg base N_wheels "wheels" (defScope s_wheels) f cdv A outer s H E) E := passes_call (takes_of rfl rfl rfl rfl) (fun _ _ _ _ h => h)
  exact (pss_cons (ps_expr (pe_calX (cal_ask_within T) hr (by decide) (by rfl) hx (pa_cons (pv 1) (pa_cons pe_int (pa_cons (pe_gI (by rfl) T.g_MOST_WHEELS) pa_nil)))))
    (pss_cons (ps_fld (pv 0) (pe_cal (cal_size_of T) hr (by decide) (by rfl) (pa_cons (pv 1) pa_nil)) rfl)
    (pss_cons (ps_fld (pv 0) (pe_lst pa_nil) rfl)
    (pss_cons (ps_fld (pv 0) (pe_lst pa_nil) rfl)
    (pss_one (ps_ret (pe_lst (pa_cons pe_int pa_nil))))))))
theorem run_wheels {K : PySem.W.Frag} {mg : Str → Option Value} {C CR : Addr} (T : Tx K mg C CR) (c : Cc) (E : XK) (m : Dk) (ds : List PyData) (r : Res) (hc : c.C = C) (hm : c.mu = true) (h : R_wheels m ds r) (hE : ∀ z e H', r = .no z → Out c H' m → H' e = some (xdN z) → E (.ref CR) (some e) H') :
    Rn c (t_wheels K C CR E) (entryK N_wheels ds) m (fun _ m' => r = .ok .none m') (fun d m' => r = .ok d m') := by
  obtain ⟨w, rfl, rfl⟩ := h
  refine q_within (a_cons (e_var rfl) (a_cons e_int (a_cons e_int a_nil))) (fun hb => ?_) (fun hb e H' o he => hE _ e H' (if_neg hb) o he)
  have ew : (w.toNat : Int) = w := by omega
  refine r_seq (r_putS T hc hm rfl (e_call (a_cons (e_var rfl) a_nil) ⟨w.toNat, by rw [ew], by omega, rfl⟩) ?_)
  refine r_seq (r_putC T hc hm (l := []) rfl (n_lst a_nil (by decide)).s ?_)
  refine r_seq (r_putL T hc hm (l := []) rfl (n_lst a_nil (by decide)).s ?_)
  exact r_ret (n_lst (a_cons e_int a_nil) (by decide)).s (if_pos hb)
theorem cal_wheels {P : Program} {w : World} {K : PySem.W.Frag} {mg : Str → Option Value} {base : Heap} {C CR : Addr} (T : Tx K mg C CR) : CalX P w K mg base (L2.CX P w) 5 "wheels" (spK C CR R_wheels) :=
  cal_ofX T.d_wheels sc_wheels bi_wheels (spK_len len_wheels) (d_wheels T) (pureK_of (run_wheels T))

/-! #### shown_all -/
def R_shown_all (m : Dk) (ds : List PyData) (d : PyData) : Prop := ∃ l : List Int, ds = [dI l] ∧ 0 < m.size ∧ l.length ≤ 1000 ∧ d = dI (l.map fun z => z % m.size)
theorem len_shown_all : ∀ m ds r, R_shown_all m ds r → ds.length + 1 = 2 := fun _ _ _ ⟨_, h, _⟩ => by rw [h] <;> rfl
abbrev s_shown_all : Stmt := top 54
abbrev N_shown_all : List Str := ["desk", "some", "number"]
theorem sc_shown_all : FnScope N_shown_all ["desk", "some"] (defScope s_shown_all) := C8.fnScope_by (by decide +kernel)
theorem bi_shown_all : BindsAt "shown_all" s_shown_all ["desk", "some"] := fun _ _ _ _ _ _ us hl => match us, hl with | [_, _], _ => rfl
def t_shown_all (K : PySem.W.Frag) (C CR : Addr) : TS :=
  (tRet (tLc (iList K (tVar 1)) (gName 2) tYes (tCall (spD R_shown) [] E0 (tCons (tVar 2) (tCons (tFld K (tVar 0) "size") tNil))) [2]))
theorem d_shown_all {P : Program} {w : World} {K : PySem.W.Frag} {mg : Str → Option Value} {base : Heap} {C CR : Addr} (T : Tx K mg C CR) (f : Addr) (cdv : Value) (A : Around) (outer : List Env) (s : Shared) (H : Hp) (E : XK) (hr : Room 1 (A.deeper (envOfC "shown_all" (defScope s_shown_all) s.heap.objs.size f cdv))) :
    PSs (cxOf CX0 P w K mg base N_shown_all "shown_all" (defScope s_shown_all) f cdv A outer s H E).nox (defBody s_shown_all) (t_shown_all K C CR) :=
  (pss_one (ps_ret (pe_lc (own := [("number", 2)]) rfl sc_shown_all.nd (pi_list (pv 1)) (blkOk_by (own := [("number", 2)]) (N := N_shown_all) (sc := defScope s_shown_all) (by decide +kernel)) (fun _ _ _ _ _ => (pg_name (i := 2) sc_shown_all.nd rfl (Or.inl rfl))) (fun _ _ _ _ _ => pts_nil) (fun _ _ _ _ _ => (pe_cal (cal_shown T) hr (by decide) (by rfl) (pa_cons (pv 2) (pa_cons (pe_fld (pv 0) rfl) pa_nil)))))))
theorem run_shown_all {K : PySem.W.Frag} {mg : Str → Option Value} {C CR : Addr} (T : Tx K mg C CR) (c : Cc) (m : Dk) (ds : List PyData) (d : PyData) (hc : c.C = C) (h : R_shown_all m ds d) :
    Rn c (t_shown_all K C CR) (entryK N_shown_all ds) m (fun _ _ => d = .none) (fun d' _ => d' = d) := by
  obtain ⟨l, rfl, hs, hl, rfl⟩ := h
  exact r_ret ((n_lcL0 (v := fun z => z % m.size) (e_var rfl).q (by omega) (by decide) (fun z _ => e_call (a_cons (e_var rfl) (a_cons (e_size T hc rfl) a_nil)) ⟨z, m.size, rfl, hs, rfl⟩)).s) rfl
theorem cal_shown_all {P : Program} {w : World} {K : PySem.W.Frag} {mg : Str → Option Value} {base : Heap} {C CR : Addr} (T : Tx K mg C CR) : CalX P w K mg base CX0 2 "shown_all" (spR C R_shown_all) :=
  cal_of T.d_shown_all sc_shown_all bi_shown_all (spR_len len_shown_all) (d_shown_all T) (pureR_of (run_shown_all T))

/-! #### set_columns -/
def setF (m : Dk) (l : List Int) : Res := if StartOk l then .ok (dI [(l.length : Int)]) { m with cols := l.map fun z => z % m.size } else .no (-1)
def R_set_columns (m : Dk) (ds : List PyData) (r : Res) : Prop := ∃ l : List Int, ds = [dI l] ∧ 0 < m.size ∧ r = setF m l
theorem len_set_columns : ∀ m ds r, R_set_columns m ds r → ds.length + 1 = 2 := fun _ _ _ ⟨_, h, _⟩ => by rw [h] <;> rfl
abbrev s_set_columns : Stmt := top 55
abbrev N_set_columns : List Str := ["desk", "some"]
theorem sc_set_columns : FnScope N_set_columns ["desk", "some"] (defScope s_set_columns) := C8.fnScope_by (by decide +kernel)
theorem bi_set_columns : BindsAt "set_columns" s_set_columns ["desk", "some"] := fun _ _ _ _ _ _ us hl => match us, hl with | [_, _], _ => rfl
def t_set_columns (K : PySem.W.Frag) (C CR : Addr) (E : XK) : TS :=
  (tSeq (tDrop (tCall (spE CR R_ask_start) [] E (tCons (tVar 1) tNil)))
    (tSeq (sFld K (tVar 0) (tCall (spR C R_shown_all) [] E0 (tCons (tVar 0) (tCons (tVar 1) tNil))) "columns")
    (tRet (tLst (tCons (tCB (rLenS K) (tCons (tVar 1) tNil)) tNil)))))
theorem d_set_columns {P : Program} {w : World} {K : PySem.W.Frag} {mg : Str → Option Value} {base : Heap} {C CR : Addr} (T : Tx K mg C CR) (f : Addr) (cdv : Value) (A : Around) (outer : List Env) (s : Shared) (H : Hp) (E : XK) (hr : Room 6 (A.deeper (envOfC "set_columns" (defScope s_set_columns) s.heap.objs.size f cdv))) :
    PSs (cxOf (L2.CX P w) P w K mg base N_set_columns "set_columns" (defScope s_set_columns) f cdv A outer s H E) (defBody s_set_columns) (t_set_columns K C CR E) := by
  have hx : Passes (L2.CX P w) (cxOf (L2.CX P w) P w K mg base N_set_columns "set_columns" (defScope s_set_columns) f cdv A outer s H E) E := passes_call (takes_of rfl rfl rfl rfl) (fun _ _ _ _ h => h)
  exact (pss_cons (ps_expr (pe_calX (cal_ask_start T) hr (by decide) (by rfl) hx (pa_cons (pv 1) pa_nil)))
    (pss_cons (ps_fld (pv 0) (pe_cal (cal_shown_all T) hr (by decide) (by rfl) (pa_cons (pv 0) (pa_cons (pv 1) pa_nil))) rfl)
    (pss_one (ps_ret (pe_lst (pa_cons (pe_callB call_len_seq (by rfl) T.b_len PySem.boot_len (pa_cons (pv 1) pa_nil)) pa_nil))))))
theorem run_set_columns {K : PySem.W.Frag} {mg : Str → Option Value} {C CR : Addr} (T : Tx K mg C CR) (c : Cc) (E : XK) (m : Dk) (ds : List PyData) (r : Res) (hc : c.C = C) (hm : c.mu = true) (h : R_set_columns m ds r) (hE : ∀ z e H', r = .no z → Out c H' m → H' e = some (xdN z) → E (.ref CR) (some e) H') :
    Rn c (t_set_columns K C CR E) (entryK N_set_columns ds) m (fun _ m' => r = .ok .none m') (fun d m' => r = .ok d m') := by
  obtain ⟨l, rfl, hs, rfl⟩ := h
  refine q_start (a_cons (e_var rfl) a_nil) (fun hb => ?_) (fun hb e H' o he => hE _ e H' (if_neg hb) o he)
  have hl := hb.2.1
  refine r_seq (r_putC T hc hm rfl (e_callR hc rfl (a_cons (e_var rfl) a_nil) ⟨l, rfl, hs, by omega, rfl⟩) ?_)
  exact r_ret (n_lst (a_cons (e_lenI (e_var rfl).q) a_nil) (by show 1 ≤ _; decide)).s (if_pos hb)
theorem cal_set_columns {P : Program} {w : World} {K : PySem.W.Frag} {mg : Str → Option Value} {base : Heap} {C CR : Addr} (T : Tx K mg C CR) : CalX P w K mg base (L2.CX P w) 7 "set_columns" (spK C CR R_set_columns) :=
  cal_ofX T.d_set_columns sc_set_columns bi_set_columns (spK_len len_set_columns) (d_set_columns T) (pureK_of (run_set_columns T))

/-! #### columns_told -/
def R_columns_told (m : Dk) (ds : List PyData) (r : Res) : Prop := ds = [] ∧ m.cols.length ≤ 1000 ∧ r = .ok (dI ((m.cols.length : Int) :: m.cols)) m
theorem len_columns_told : ∀ m ds r, R_columns_told m ds r → ds.length + 1 = 1 := fun _ _ _ ⟨h, _⟩ => by rw [h] <;> rfl
abbrev s_columns_told : Stmt := top 56
abbrev N_columns_told : List Str := ["desk"]
theorem sc_columns_told : FnScope N_columns_told ["desk"] (defScope s_columns_told) := C8.fnScope_by (by decide +kernel)
theorem bi_columns_told : BindsAt "columns_told" s_columns_told ["desk"] := fun _ _ _ _ _ _ us hl => match us, hl with | [_], _ => rfl
def t_columns_told (K : PySem.W.Frag) (C CR : Addr) : TS :=
  (tRet (tOp rCat (tLst (tCons (tCB (rLenS K) (tCons (tFld K (tVar 0) "columns") tNil)) tNil)) (tCB (rListS K) (tCons (tFld K (tVar 0) "columns") tNil))))
theorem d_columns_told {P : Program} {w : World} {K : PySem.W.Frag} {mg : Str → Option Value} {base : Heap} {C CR : Addr} (T : Tx K mg C CR) (f : Addr) (cdv : Value) (A : Around) (outer : List Env) (s : Shared) (H : Hp) (E : XK) (hr : Room 0 (A.deeper (envOfC "columns_told" (defScope s_columns_told) s.heap.objs.size f cdv))) :
    PSs (cxOf CX0 P w K mg base N_columns_told "columns_told" (defScope s_columns_told) f cdv A outer s H E).nox (defBody s_columns_told) (t_columns_told K C CR) :=
  (pss_one (ps_ret (pe_op op_cat (pe_lst (pa_cons (pe_callB call_len_seq (by rfl) T.b_len PySem.boot_len (pa_cons (pe_fld (pv 0) rfl) pa_nil)) pa_nil)) (pe_callTy call_list_of (by rfl) T.b_list PyProof.Rows.boot_list (pa_cons (pe_fld (pv 0) rfl) pa_nil)))))
theorem run_columns_told {K : PySem.W.Frag} {mg : Str → Option Value} {C CR : Addr} (T : Tx K mg C CR) (c : Cc) (E : XK) (m : Dk) (ds : List PyData) (r : Res) (hc : c.C = C) (hm : c.mu = true) (h : R_columns_told m ds r) (hE : ∀ z e H', r = .no z → Out c H' m → H' e = some (xdN z) → E (.ref CR) (some e) H') :
    Rn c (t_columns_told K C CR) (entryK N_columns_told ds) m (fun _ m' => r = .ok .none m') (fun d m' => r = .ok d m') := by
  obtain ⟨rfl, hl, rfl⟩ := h
  exact r_ret (n_cat (n_lst (a_cons (e_lenI (e_cols T hc rfl).q) a_nil) (by show 1 ≤ _; decide)).q (n_list (e_cols T hc rfl).q).q (by rw [List.length_map]; show 1 + _ ≤ _; omega)).s rfl
theorem cal_columns_told {P : Program} {w : World} {K : PySem.W.Frag} {mg : Str → Option Value} {base : Heap} {C CR : Addr} (T : Tx K mg C CR) : CalX P w K mg base CX0 1 "columns_told" (spK C CR R_columns_told) :=
  cal_of T.d_columns_told sc_columns_told bi_columns_told (spK_len len_columns_told) (d_columns_told T) (fun vs H Q E h => pureK_of (t := fun _ => t_columns_told K C CR) (run_columns_told T) vs H Q E h)

/-! #### crank -/
def crankF (m : Dk) (n : Int) : Res := if 0 ≤ n ∧ n ≤ 60 then (if m.cols = [] then .no (-6) else if (m.lines.length : Int) + n ≤ 60 then
  .ok (dI (toldM (printedM m.size (-1) (-1) m.cols n.toNat))) { m with cols := colsAt m.size (-1) (-1) m.cols n.toNat, lines := m.lines ++ printedM m.size (-1) (-1) m.cols n.toNat } else .no (-3)) else .no (-1)
def R_crank (m : Dk) (ds : List PyData) (r : Res) : Prop := ∃ n : Int, ds = [.int n] ∧ Good m ∧ r = crankF m n
theorem len_crank : ∀ m ds r, R_crank m ds r → ds.length + 1 = 2 := fun _ _ _ ⟨_, h, _⟩ => by rw [h] <;> rfl
theorem colsAt_succ (size : Int) (cols : List Int) (t : Nat) : colsAt size (-1) (-1) cols (t + 1) = turnedM (colsAt size (-1) (-1) cols t) size (-1) := by
  show turnedM _ _ (if _ then _ else _) = _
  rw [ite_self]
theorem printedM_len (size a b : Int) (cols : List Int) (n : Nat) : (printedM size a b cols n).length = n := by unfold printedM; rw [List.length_map, List.length_range]
abbrev s_crank : Stmt := top 57
abbrev N_crank : List Str := ["desk", "n", "found", "turn"]
theorem sc_crank : FnScope N_crank ["desk", "n"] (defScope s_crank) := C8.fnScope_by (by decide +kernel)
theorem bi_crank : BindsAt "crank" s_crank ["desk", "n"] := fun _ _ _ _ _ _ us hl => match us, hl with | [_, _], _ => rfl
def t_crank (K : PySem.W.Frag) (C CR : Addr) (E : XK) : TS :=
  (tSeq (tDrop (tCall (spE CR R_ask_within) [] E (tCons (tVar 1) (tCons (tC (.int 0)) (tCons (tC (.int 60)) tNil)))))
    (tSeq (tDrop (tCall (spK C CR R_ask_columns) [] E (tCons (tVar 0) tNil)))
    (tSeq (tDrop (tCall (spE CR R_ask) [] E (tCons (tOp (rI0 fun i j => .bl (decide (i ≤ j))) (tOp (rI0 fun i j => .int (i + j)) (tCB (rLenS K) (tCons (tFld K (tVar 0) "lines") tNil)) (tVar 1)) (tC (.int 60))) (tCons (tUn (rU fun i => .int (-i)) (tC (.int 3))) tNil))))
    (tSeq (tAsg (tLst tNil) (gName 2))
    (tSeq (tFor (iRng1 (tCons (tVar 1) tNil)) (gName 3) (tSeq (tDrop (tBM K "list" rAppend (tVar 2) (tCons (tCall (spD R_signed) [] E0 (tCons (tOp (rIxL K) (tFld K (tVar 0) "columns") (tC (.int 0))) (tCons (tFld K (tVar 0) "size") tNil))) tNil)))
    (sFld K (tVar 0) (tCall (spD R_turned) [] E0 (tCons (tFld K (tVar 0) "columns") (tCons (tFld K (tVar 0) "size") (tCons (tUn (rU fun i => .int (-i)) (tC (.int 1))) tNil)))) "columns")))
    (tSeq (sFld K (tVar 0) (tOp rCat (tFld K (tVar 0) "lines") (tVar 2)) "lines")
    (tRet (tCall (spD R_told) [] E0 (tCons (tVar 2) tNil)))))))))
theorem d_crank {P : Program} {w : World} {K : PySem.W.Frag} {mg : Str → Option Value} {base : Heap} {C CR : Addr} (T : Tx K mg C CR) (f : Addr) (cdv : Value) (A : Around) (outer : List Env) (s : Shared) (H : Hp) (E : XK) (hr : Room 4 (A.deeper (envOfC "crank" (defScope s_crank) s.heap.objs.size f cdv))) :
    PSs (cxOf (L2.CX P w) P w K mg base N_crank "crank" (defScope s_crank) f cdv A outer s H E) (defBody s_crank) (t_crank K C CR E) := by
  have hx : Passes (L2.CX P w) (cxOf (L2.CX P w) P w K mg base N_crank "crank" (defScope s_crank) f cdv A outer s H E) E := passes_call (takes_of rfl rfl rfl rfl) (fun _ _ _ _ h => h)
  exact (pss_cons (ps_expr (pe_calX (cal_ask_within T) hr (by decide) (by rfl) hx (pa_cons (pv 1) (pa_cons pe_int (pa_cons (pe_gI (by rfl) T.g_MOST_LINES) pa_nil)))))
    (pss_cons (ps_expr (pe_calX (cal_ask_columns T) hr (by decide) (by rfl) hx (pa_cons (pv 0) pa_nil)))
    (pss_cons (ps_expr (pe_calX (cal_ask T) hr (by decide) (by rfl) hx (pa_cons (pe_cmpR op_le (pe_op op_add (pe_callB call_len_seq (by rfl) T.b_len PySem.boot_len (pa_cons (pe_fld (pv 0) rfl) pa_nil)) (pv 1)) (pe_gI (by rfl) T.g_MOST_LINES) (nomark _)) (pa_cons (pe_un un_neg pe_int) pa_nil))))
    (pss_cons (ps_set (i := 2) sc_crank.nd rfl (Or.inl rfl) (pe_lst pa_nil))
    (pss_cons (ps_for (passes_of rfl) rfl (pi_range1 (by rfl) T.b_range (pa_cons (pv 1) pa_nil)) (pg_name (i := 3) sc_crank.nd rfl (Or.inl rfl)) (pss_cons (ps_expr (pe_bm PySem.F.plainAttrs_list PySem.F.slot_list_append PySem.F.type_list_append mt_append (pv 2) (pa_cons (pe_cal (cal_signed T) hr (by decide) (by rfl) (pa_cons (pe_ix ix_list (pe_fld (pv 0) rfl) pe_int (fun _ _ => rfl)) (pa_cons (pe_fld (pv 0) rfl) pa_nil))) pa_nil)))
    (pss_one (ps_fld (pv 0) (pe_cal (cal_turned T) hr (by decide) (by rfl) (pa_cons (pe_fld (pv 0) rfl) (pa_cons (pe_fld (pv 0) rfl) (pa_cons (pe_un un_neg pe_int) pa_nil)))) rfl))))
    (pss_cons (ps_fld (pv 0) (pe_op op_cat (pe_fld (pv 0) rfl) (pv 2)) rfl)
    (pss_one (ps_ret (pe_cal (cal_told T) hr (by decide) (by rfl) (pa_cons (pv 2) pa_nil))))))))))
theorem run_crank {K : PySem.W.Frag} {mg : Str → Option Value} {C CR : Addr} (T : Tx K mg C CR) (c : Cc) (E : XK) (m : Dk) (ds : List PyData) (r : Res) (hc : c.C = C) (hm : c.mu = true) (h : R_crank m ds r) (hE : ∀ z e H', r = .no z → Out c H' m → H' e = some (xdN z) → E (.ref CR) (some e) H') :
    Rn c (t_crank K C CR E) (entryK N_crank ds) m (fun _ m' => r = .ok .none m') (fun d m' => r = .ok d m') := by
  obtain ⟨n, rfl, hg, rfl⟩ := h
  have hcl := hg.cl
  have hll := hg.ll
  refine q_within (a_cons (e_var rfl) (a_cons e_int (a_cons e_int a_nil))) (fun h1 => ?_) (fun h1 e H' o he => hE _ e H' (if_neg h1) o he)
  refine q_cols hc hm rfl (fun h2 => ?_) (fun h2 e H' o he => hE _ e H' (by unfold crankF; rw [if_pos h1, if_pos h2]) o he)
  refine q_ask (a_cons (e_C0 (e_I0 (e_lenI (e_lines T hc rfl).q) (e_var rfl)) e_int) (a_cons (e_neg e_int) a_nil)) (fun h3 => ?_) (fun h3 e H' o he => hE _ e H' (by unfold crankF; rw [if_pos h1, if_neg h2, if_neg (of_decide_eq_false h3)]) o he)
  have h3 := of_decide_eq_true h3
  have hpos : 0 < m.cols.length := List.length_pos_iff.mpr h2
  refine r_seq (r_asgN (n_lst a_nil (by decide)) ?_)
  refine r_seq (r_forR (a_cons (e_var rfl) a_nil) (by omega) (by omega) (fun i => [.desk, .val (.int n), .own (nI (printedM m.size (-1) (-1) m.cols i)), .no]) (fun i => { m with cols := colsAt m.size (-1) (-1) m.cols i }) (fun _ => True)
    ⟨.inr rfl, .inr rfl, .inr rfl, .inl rfl, trivial⟩ rfl trivial (fun B i hi _ => ?_) (fun _ => ?_))
  · have hc' : (colsAt m.size (-1) (-1) m.cols i).length = m.cols.length := colsAt_len _ _ _ _ _
    have hc : (c.on B).C = C := hc
    refine r_seq (r_app rfl (e_call (a_cons (e_ixI (e_cols T hc rfl).q e_int (by decide) (by show (0 : Int) < ((colsAt m.size (-1) (-1) m.cols i).length : Int); omega)) (a_cons (e_size T hc rfl) a_nil)) ⟨_, _, rfl, rfl⟩) (by rw [List.length_map, printedM_len]; omega) ?_)
    refine r_putC T hc hm rfl (e_call (a_cons (e_cols T hc rfl) (a_cons (e_size T hc rfl) (a_cons (e_neg e_int) a_nil))) ⟨_, _, _, rfl, hg.pos, by show (colsAt m.size (-1) (-1) m.cols i).length ≤ 1000; omega, rfl⟩) ⟨⟨.inr rfl, .inr rfl, .inr ?_, .inl rfl, trivial⟩, ?_, trivial⟩
    · exact congrArg SD.own (nI_range_succ (fun t => signedM ((colsAt m.size (-1) (-1) m.cols t).getD 0 0) m.size) i)
    · rw [colsAt_succ] <;> rfl
  · refine r_seq (r_putL T hc hm rfl ((n_cat (e_lines T hc rfl).q (q_var rfl) (by rw [List.length_map, List.length_map, printedM_len]; show m.lines.length + _ ≤ _; omega)).s.is (congrArg PyData.list (nI_append _ _))) ?_)
    refine r_plain (i := 2) rfl (r_ret (e_call (a_cons (e_var rfl) a_nil) ⟨_, rfl, by rw [printedM_len]; omega, rfl⟩) ?_)
    unfold crankF
    rw [if_pos h1, if_neg h2, if_pos h3]
theorem cal_crank {P : Program} {w : World} {K : PySem.W.Frag} {mg : Str → Option Value} {base : Heap} {C CR : Addr} (T : Tx K mg C CR) : CalX P w K mg base (L2.CX P w) 5 "crank" (spK C CR R_crank) :=
  cal_ofX T.d_crank sc_crank bi_crank (spK_len len_crank) (d_crank T) (pureK_of (run_crank T))

/-! #### back -/
def backF (m : Dk) (n : Int) : Res := if 0 ≤ n ∧ n ≤ 60 then (if m.cols = [] then .no (-6) else .ok (dI [0]) { m with cols := iter (backM m.size) n.toNat m.cols }) else .no (-1)
def R_back (m : Dk) (ds : List PyData) (r : Res) : Prop := ∃ n : Int, ds = [.int n] ∧ Good m ∧ r = backF m n
theorem len_back : ∀ m ds r, R_back m ds r → ds.length + 1 = 2 := fun _ _ _ ⟨_, h, _⟩ => by rw [h] <;> rfl
abbrev s_back : Stmt := top 58
abbrev N_back : List Str := ["desk", "n", "turn"]
theorem sc_back : FnScope N_back ["desk", "n"] (defScope s_back) := C8.fnScope_by (by decide +kernel)
theorem bi_back : BindsAt "back" s_back ["desk", "n"] := fun _ _ _ _ _ _ us hl => match us, hl with | [_, _], _ => rfl
def t_back (K : PySem.W.Frag) (C CR : Addr) (E : XK) : TS :=
  (tSeq (tDrop (tCall (spE CR R_ask_within) [] E (tCons (tVar 1) (tCons (tC (.int 0)) (tCons (tC (.int 60)) tNil)))))
    (tSeq (tDrop (tCall (spK C CR R_ask_columns) [] E (tCons (tVar 0) tNil)))
    (tSeq (tFor (iRng1 (tCons (tVar 1) tNil)) (gName 2) (sFld K (tVar 0) (tCall (spD R_turned_back) [] E0 (tCons (tFld K (tVar 0) "columns") (tCons (tFld K (tVar 0) "size") tNil))) "columns"))
    (tRet (tLst (tCons (tC (.int 0)) tNil))))))
theorem d_back {P : Program} {w : World} {K : PySem.W.Frag} {mg : Str → Option Value} {base : Heap} {C CR : Addr} (T : Tx K mg C CR) (f : Addr) (cdv : Value) (A : Around) (outer : List Env) (s : Shared) (H : Hp) (E : XK) (hr : Room 4 (A.deeper (envOfC "back" (defScope s_back) s.heap.objs.size f cdv))) :
    PSs (cxOf (L2.CX P w) P w K mg base N_back "back" (defScope s_back) f cdv A outer s H E) (defBody s_back) (t_back K C CR E) := by
  have hx : Passes (L2.CX P w) (cxOf (L2.CX P w) P w K mg base N_back "back" (defScope s_back) f cdv A outer s H E) E := passes_call (takes_of rfl rfl rfl rfl) (fun _ _ _ _ h => h)
  exact (pss_cons (ps_expr (pe_calX (cal_ask_within T) hr (by decide) (by rfl) hx (pa_cons (pv 1) (pa_cons pe_int (pa_cons (pe_gI (by rfl) T.g_MOST_LINES) pa_nil)))))
    (pss_cons (ps_expr (pe_calX (cal_ask_columns T) hr (by decide) (by rfl) hx (pa_cons (pv 0) pa_nil)))
    (pss_cons (ps_for (passes_of rfl) rfl (pi_range1 (by rfl) T.b_range (pa_cons (pv 1) pa_nil)) (pg_name (i := 2) sc_back.nd rfl (Or.inl rfl)) (pss_one (ps_fld (pv 0) (pe_cal (cal_turned_back T) hr (by decide) (by rfl) (pa_cons (pe_fld (pv 0) rfl) (pa_cons (pe_fld (pv 0) rfl) pa_nil))) rfl)))
    (pss_one (ps_ret (pe_lst (pa_cons pe_int pa_nil)))))))
theorem run_back {K : PySem.W.Frag} {mg : Str → Option Value} {C CR : Addr} (T : Tx K mg C CR) (c : Cc) (E : XK) (m : Dk) (ds : List PyData) (r : Res) (hc : c.C = C) (hm : c.mu = true) (h : R_back m ds r) (hE : ∀ z e H', r = .no z → Out c H' m → H' e = some (xdN z) → E (.ref CR) (some e) H') :
    Rn c (t_back K C CR E) (entryK N_back ds) m (fun _ m' => r = .ok .none m') (fun d m' => r = .ok d m') := by
  obtain ⟨n, rfl, hg, rfl⟩ := h
  have hcl := hg.cl
  refine q_within (a_cons (e_var rfl) (a_cons e_int (a_cons e_int a_nil))) (fun h1 => ?_) (fun h1 e H' o he => hE _ e H' (if_neg h1) o he)
  refine q_cols hc hm rfl (fun h2 => ?_) (fun h2 e H' o he => hE _ e H' (by unfold backF; rw [if_pos h1, if_pos h2]) o he)
  refine r_seq (r_forR (a_cons (e_var rfl) a_nil) (by omega) (by omega) (fun i => [.desk, .val (.int n), .no]) (fun i => { m with cols := iter (backM m.size) i m.cols }) (fun _ => True)
    ⟨.inr rfl, .inr rfl, .inl rfl, trivial⟩ rfl trivial (fun B i hi _ => ?_) (fun _ => ?_))
  · have hl := iter_back_len m.size m.cols i
    have hc : (c.on B).C = C := hc
    exact r_putC T hc hm rfl (e_call (a_cons (e_cols T hc rfl) (a_cons (e_size T hc rfl) a_nil)) ⟨_, _, rfl, hg.pos, by show (iter (backM m.size) i m.cols).length ≤ 1000; omega, rfl⟩) ⟨⟨.inr rfl, .inr rfl, .inl rfl, trivial⟩, rfl, trivial⟩
  · refine r_ret (n_lst (a_cons e_int a_nil) (by decide)).s ?_
    unfold backF
    rw [if_pos h1, if_neg h2] <;> rfl
theorem cal_back {P : Program} {w : World} {K : PySem.W.Frag} {mg : Str → Option Value} {base : Heap} {C CR : Addr} (T : Tx K mg C CR) : CalX P w K mg base (L2.CX P w) 5 "back" (spK C CR R_back) :=
  cal_ofX T.d_back sc_back bi_back (spK_len len_back) (d_back T) (pureK_of (run_back T))

/-! #### half -/
def halfIt (m : Dk) (kind : Int) (n : Nat) : List Int := iter (fun l => halfM l m.size kind.toNat) n m.cols
def halfF (m : Dk) (kind n : Int) : Res := if 0 ≤ kind ∧ kind ≤ 1 then (if 0 ≤ n ∧ n ≤ 60 then (if m.cols = [] then .no (-6) else .ok (dI [0, signedM ((halfIt m kind n.toNat).getD 0 0) m.size]) { m with cols := halfIt m kind n.toNat }) else .no (-1)) else .no (-1)
def R_half (m : Dk) (ds : List PyData) (r : Res) : Prop := ∃ kind n : Int, ds = [.int kind, .int n] ∧ Good m ∧ r = halfF m kind n
theorem len_half : ∀ m ds r, R_half m ds r → ds.length + 1 = 3 := fun _ _ _ ⟨_, _, h, _⟩ => by rw [h] <;> rfl
theorem halfIt_len (m : Dk) (kind : Int) : ∀ n, (halfIt m kind n).length = m.cols.length
  | 0 => rfl
  | n + 1 => by
    show (halfTo _ _ _ _).length = _
    rw [halfTo_len]
    exact halfIt_len m kind n
abbrev s_half : Stmt := top 59
abbrev N_half : List Str := ["desk", "kind", "n", "turn"]
theorem sc_half : FnScope N_half ["desk", "kind", "n"] (defScope s_half) := C8.fnScope_by (by decide +kernel)
theorem bi_half : BindsAt "half" s_half ["desk", "kind", "n"] := fun _ _ _ _ _ _ us hl => match us, hl with | [_, _, _], _ => rfl
def t_half (K : PySem.W.Frag) (C CR : Addr) (E : XK) : TS :=
  (tSeq (tDrop (tCall (spE CR R_ask_within) [] E (tCons (tVar 1) (tCons (tC (.int 0)) (tCons (tC (.int 1)) tNil)))))
    (tSeq (tDrop (tCall (spE CR R_ask_within) [] E (tCons (tVar 2) (tCons (tC (.int 0)) (tCons (tC (.int 60)) tNil)))))
    (tSeq (tDrop (tCall (spK C CR R_ask_columns) [] E (tCons (tVar 0) tNil)))
    (tSeq (tFor (iRng1 (tCons (tVar 2) tNil)) (gName 3) (sFld K (tVar 0) (tCall (spD R_half_turned) [] E0 (tCons (tFld K (tVar 0) "columns") (tCons (tFld K (tVar 0) "size") (tCons (tVar 1) tNil)))) "columns"))
    (tRet (tLst (tCons (tC (.int 0)) (tCons (tCall (spD R_signed) [] E0 (tCons (tOp (rIxL K) (tFld K (tVar 0) "columns") (tC (.int 0))) (tCons (tFld K (tVar 0) "size") tNil))) tNil))))))))
theorem d_half {P : Program} {w : World} {K : PySem.W.Frag} {mg : Str → Option Value} {base : Heap} {C CR : Addr} (T : Tx K mg C CR) (f : Addr) (cdv : Value) (A : Around) (outer : List Env) (s : Shared) (H : Hp) (E : XK) (hr : Room 4 (A.deeper (envOfC "half" (defScope s_half) s.heap.objs.size f cdv))) :
    PSs (cxOf (L2.CX P w) P w K mg base N_half "half" (defScope s_half) f cdv A outer s H E) (defBody s_half) (t_half K C CR E) := by
  have hx : Passes (L2.CX P w) (cxOf (L2.CX P w) P w K mg base N_half "half" (defScope s_half) f cdv A outer s H E) E := passes_call (takes_of rfl rfl rfl rfl) (fun _ _ _ _ h => h)
  exact (pss_cons (ps_expr (pe_calX (cal_ask_within T) hr (by decide) (by rfl) hx (pa_cons (pv 1) (pa_cons pe_int (pa_cons pe_int pa_nil)))))
    (pss_cons (ps_expr (pe_calX (cal_ask_within T) hr (by decide) (by rfl) hx (pa_cons (pv 2) (pa_cons pe_int (pa_cons (pe_gI (by rfl) T.g_MOST_LINES) pa_nil)))))
    (pss_cons (ps_expr (pe_calX (cal_ask_columns T) hr (by decide) (by rfl) hx (pa_cons (pv 0) pa_nil)))
    (pss_cons (ps_for (passes_of rfl) rfl (pi_range1 (by rfl) T.b_range (pa_cons (pv 2) pa_nil)) (pg_name (i := 3) sc_half.nd rfl (Or.inl rfl)) (pss_one (ps_fld (pv 0) (pe_cal (cal_half_turned T) hr (by decide) (by rfl) (pa_cons (pe_fld (pv 0) rfl) (pa_cons (pe_fld (pv 0) rfl) (pa_cons (pv 1) pa_nil)))) rfl)))
    (pss_one (ps_ret (pe_lst (pa_cons pe_int (pa_cons (pe_cal (cal_signed T) hr (by decide) (by rfl) (pa_cons (pe_ix ix_list (pe_fld (pv 0) rfl) pe_int (fun _ _ => rfl)) (pa_cons (pe_fld (pv 0) rfl) pa_nil))) pa_nil)))))))))
theorem run_half {K : PySem.W.Frag} {mg : Str → Option Value} {C CR : Addr} (T : Tx K mg C CR) (c : Cc) (E : XK) (m : Dk) (ds : List PyData) (r : Res) (hc : c.C = C) (hm : c.mu = true) (h : R_half m ds r) (hE : ∀ z e H', r = .no z → Out c H' m → H' e = some (xdN z) → E (.ref CR) (some e) H') :
    Rn c (t_half K C CR E) (entryK N_half ds) m (fun _ m' => r = .ok .none m') (fun d m' => r = .ok d m') := by
  obtain ⟨kind, n, rfl, hg, rfl⟩ := h
  have hcl := hg.cl
  refine q_within (a_cons (e_var rfl) (a_cons e_int (a_cons e_int a_nil))) (fun h0 => ?_) (fun h0 e H' o he => hE _ e H' (if_neg h0) o he)
  refine q_within (a_cons (e_var rfl) (a_cons e_int (a_cons e_int a_nil))) (fun h1 => ?_) (fun h1 e H' o he => hE _ e H' (by unfold halfF; rw [if_pos h0, if_neg h1]) o he)
  refine q_cols hc hm rfl (fun h2 => ?_) (fun h2 e H' o he => hE _ e H' (by unfold halfF; rw [if_pos h0, if_pos h1, if_pos h2]) o he)
  have hpos : 0 < m.cols.length := List.length_pos_iff.mpr h2
  have ek : (kind.toNat : Int) = kind := by omega
  refine r_seq (r_forR (a_cons (e_var rfl) a_nil) (by omega) (by omega) (fun i => [.desk, .val (.int kind), .val (.int n), .no]) (fun i => { m with cols := halfIt m kind i }) (fun _ => True)
    ⟨.inr rfl, .inr rfl, .inr rfl, .inl rfl, trivial⟩ rfl trivial (fun B i hi _ => ?_) (fun _ => ?_))
  · have hl := halfIt_len m kind i
    have hc : (c.on B).C = C := hc
    exact r_putC T hc hm rfl (e_call (a_cons (e_cols T hc rfl) (a_cons (e_size T hc rfl) (a_cons (e_var rfl) a_nil))) ⟨halfIt m kind i, m.size, kind.toNat, by rw [ek] <;> rfl, hg.pos, by show (halfIt m kind i).length ≤ 1000; omega, by omega, rfl⟩) ⟨⟨.inr rfl, .inr rfl, .inr rfl, .inl rfl, trivial⟩, rfl, trivial⟩
  · have hl := halfIt_len m kind n.toNat
    refine r_ret (n_lst (a_cons e_int (a_cons (e_call (a_cons (e_ixI (e_cols T hc rfl).q e_int (by decide) (by show (0 : Int) < ((halfIt m kind n.toNat).length : Int); omega)) (a_cons (e_size T hc rfl) a_nil)) ⟨_, _, rfl, rfl⟩) a_nil)) (by show 2 ≤ _; decide)).s ?_
    unfold halfF
    rw [if_pos h0, if_pos h1, if_neg h2] <;> rfl
theorem cal_half {P : Program} {w : World} {K : PySem.W.Frag} {mg : Str → Option Value} {base : Heap} {C CR : Addr} (T : Tx K mg C CR) : CalX P w K mg base (L2.CX P w) 5 "half" (spK C CR R_half) :=
  cal_ofX T.d_half sc_half bi_half (spK_len len_half) (d_half T) (pureK_of (run_half T))

/-! #### skip -/
def skipF (m : Dk) (j : Int) : Res := if 0 ≤ j ∧ j ≤ (m.cols.length : Int) - 2 then (if (m.lines.length : Int) < 60 then
  .ok (dI [0, signedM (m.cols.getD 0 0) m.size]) { m with lines := m.lines ++ [signedM (m.cols.getD 0 0) m.size], cols := turnedM m.cols m.size j } else .no (-3)) else .no (-1)
def R_skip (m : Dk) (ds : List PyData) (r : Res) : Prop := ∃ j : Int, ds = [.int j] ∧ Good m ∧ r = skipF m j
theorem len_skip : ∀ m ds r, R_skip m ds r → ds.length + 1 = 2 := fun _ _ _ ⟨_, h, _⟩ => by rw [h] <;> rfl
abbrev s_skip : Stmt := top 60
abbrev N_skip : List Str := ["desk", "j", "line"]
theorem sc_skip : FnScope N_skip ["desk", "j"] (defScope s_skip) := C8.fnScope_by (by decide +kernel)
theorem bi_skip : BindsAt "skip" s_skip ["desk", "j"] := fun _ _ _ _ _ _ us hl => match us, hl with | [_, _], _ => rfl
def t_skip (K : PySem.W.Frag) (C CR : Addr) (E : XK) : TS :=
  (tSeq (tDrop (tCall (spE CR R_ask_within) [] E (tCons (tVar 1) (tCons (tC (.int 0)) (tCons (tOp (rI0 fun i j => .int (i - j)) (tCB (rLenS K) (tCons (tFld K (tVar 0) "columns") tNil)) (tC (.int 2))) tNil)))))
    (tSeq (tDrop (tCall (spE CR R_ask) [] E (tCons (tOp (rI0 fun i j => .bl (decide (i < j))) (tCB (rLenS K) (tCons (tFld K (tVar 0) "lines") tNil)) (tC (.int 60))) (tCons (tUn (rU fun i => .int (-i)) (tC (.int 3))) tNil))))
    (tSeq (tAsg (tCall (spD R_signed) [] E0 (tCons (tOp (rIxL K) (tFld K (tVar 0) "columns") (tC (.int 0))) (tCons (tFld K (tVar 0) "size") tNil))) (gName 2))
    (tSeq (sFld K (tVar 0) (tOp rCat (tFld K (tVar 0) "lines") (tLst (tCons (tVar 2) tNil))) "lines")
    (tSeq (sFld K (tVar 0) (tCall (spD R_turned) [] E0 (tCons (tFld K (tVar 0) "columns") (tCons (tFld K (tVar 0) "size") (tCons (tVar 1) tNil)))) "columns")
    (tRet (tLst (tCons (tC (.int 0)) (tCons (tVar 2) tNil)))))))))
theorem d_skip {P : Program} {w : World} {K : PySem.W.Frag} {mg : Str → Option Value} {base : Heap} {C CR : Addr} (T : Tx K mg C CR) (f : Addr) (cdv : Value) (A : Around) (outer : List Env) (s : Shared) (H : Hp) (E : XK) (hr : Room 4 (A.deeper (envOfC "skip" (defScope s_skip) s.heap.objs.size f cdv))) :
    PSs (cxOf (L2.CX P w) P w K mg base N_skip "skip" (defScope s_skip) f cdv A outer s H E) (defBody s_skip) (t_skip K C CR E) := by
  have hx : Passes (L2.CX P w) (cxOf (L2.CX P w) P w K mg base N_skip "skip" (defScope s_skip) f cdv A outer s H E) E := passes_call (takes_of rfl rfl rfl rfl) (fun _ _ _ _ h => h)
  exact (pss_cons (ps_expr (pe_calX (cal_ask_within T) hr (by decide) (by rfl) hx (pa_cons (pv 1) (pa_cons pe_int (pa_cons (pe_op op_sub (pe_callB call_len_seq (by rfl) T.b_len PySem.boot_len (pa_cons (pe_fld (pv 0) rfl) pa_nil)) pe_int) pa_nil)))))
    (pss_cons (ps_expr (pe_calX (cal_ask T) hr (by decide) (by rfl) hx (pa_cons (pe_cmpR op_lt (pe_callB call_len_seq (by rfl) T.b_len PySem.boot_len (pa_cons (pe_fld (pv 0) rfl) pa_nil)) (pe_gI (by rfl) T.g_MOST_LINES) (nomark _)) (pa_cons (pe_un un_neg pe_int) pa_nil))))
    (pss_cons (ps_set (i := 2) sc_skip.nd rfl (Or.inl rfl) (pe_cal (cal_signed T) hr (by decide) (by rfl) (pa_cons (pe_ix ix_list (pe_fld (pv 0) rfl) pe_int (fun _ _ => rfl)) (pa_cons (pe_fld (pv 0) rfl) pa_nil))))
    (pss_cons (ps_fld (pv 0) (pe_op op_cat (pe_fld (pv 0) rfl) (pe_lst (pa_cons (pv 2) pa_nil))) rfl)
    (pss_cons (ps_fld (pv 0) (pe_cal (cal_turned T) hr (by decide) (by rfl) (pa_cons (pe_fld (pv 0) rfl) (pa_cons (pe_fld (pv 0) rfl) (pa_cons (pv 1) pa_nil)))) rfl)
    (pss_one (ps_ret (pe_lst (pa_cons pe_int (pa_cons (pv 2) pa_nil))))))))))
theorem run_skip {K : PySem.W.Frag} {mg : Str → Option Value} {C CR : Addr} (T : Tx K mg C CR) (c : Cc) (E : XK) (m : Dk) (ds : List PyData) (r : Res) (hc : c.C = C) (hm : c.mu = true) (h : R_skip m ds r) (hE : ∀ z e H', r = .no z → Out c H' m → H' e = some (xdN z) → E (.ref CR) (some e) H') :
    Rn c (t_skip K C CR E) (entryK N_skip ds) m (fun _ m' => r = .ok .none m') (fun d m' => r = .ok d m') := by
  obtain ⟨j, rfl, hg, rfl⟩ := h
  have hcl := hg.cl
  refine q_within (a_cons (e_var rfl) (a_cons e_int (a_cons (e_I0 (e_lenI (e_cols T hc rfl).q) e_int) a_nil))) (fun h1 => ?_) (fun h1 e H' o he => hE _ e H' (if_neg h1) o he)
  refine q_ask (a_cons (e_C0 (e_lenI (e_lines T hc rfl).q) e_int) (a_cons (e_neg e_int) a_nil)) (fun h3 => ?_) (fun h3 e H' o he => hE _ e H' (by unfold skipF; rw [if_pos h1, if_neg (of_decide_eq_false h3)]) o he)
  have h3 := of_decide_eq_true h3
  refine r_seq (r_asg (e_call (a_cons (e_ixI (e_cols T hc rfl).q e_int (by decide) (by omega)) (a_cons (e_size T hc rfl) a_nil)) ⟨_, _, rfl, rfl⟩) ?_)
  refine r_seq (r_putL T hc hm (l := m.lines ++ [signedM (m.cols.getD 0 0) m.size]) rfl ((n_cat (e_lines T hc rfl).q (n_lst (a_cons (e_var rfl) a_nil) (by show 1 ≤ _; decide)).q (by rw [List.length_map]; show _ + 1 ≤ _; omega)).s.is (congrArg PyData.list (nI_append _ [_]))) ?_)
  refine r_seq (r_putC T hc hm rfl (e_call (a_cons (e_cols T hc rfl) (a_cons (e_size T hc rfl) (a_cons (e_var rfl) a_nil))) ⟨_, _, _, rfl, hg.pos, by show m.cols.length ≤ 1000; omega, rfl⟩) ?_)
  refine r_ret (n_lst (a_cons e_int (a_cons (e_var rfl) a_nil)) (by show 2 ≤ _; decide)).s ?_
  unfold skipF
  rw [if_pos h1, if_pos h3] <;> rfl
theorem cal_skip {P : Program} {w : World} {K : PySem.W.Frag} {mg : Str → Option Value} {base : Heap} {C CR : Addr} (T : Tx K mg C CR) : CalX P w K mg base (L2.CX P w) 5 "skip" (spK C CR R_skip) :=
  cal_ofX T.d_skip sc_skip bi_skip (spK_len len_skip) (d_skip T) (pureK_of (run_skip T))

/-! #### sheet -/
def sheetF (m : Dk) (l : List Int) : Res := if l.length ≤ 60 then (if l.all Vbcead.isGreat = true then .ok (dI [(l.length : Int)]) { m with lines := l } else .no (-1)) else .no (-1)
def R_sheet (m : Dk) (ds : List PyData) (r : Res) : Prop := ∃ l : List Int, ds = [dI l] ∧ r = sheetF m l
theorem len_sheet : ∀ m ds r, R_sheet m ds r → ds.length + 1 = 2 := fun _ _ _ ⟨_, h, _⟩ => by rw [h] <;> rfl
abbrev s_sheet : Stmt := top 61
abbrev N_sheet : List Str := ["desk", "some"]
theorem sc_sheet : FnScope N_sheet ["desk", "some"] (defScope s_sheet) := C8.fnScope_by (by decide +kernel)
theorem bi_sheet : BindsAt "sheet" s_sheet ["desk", "some"] := fun _ _ _ _ _ _ us hl => match us, hl with | [_, _], _ => rfl
def t_sheet (K : PySem.W.Frag) (C CR : Addr) (E : XK) : TS :=
  (tSeq (tDrop (tCall (spE CR R_ask) [] E (tCons (tOp (rI0 fun i j => .bl (decide (i ≤ j))) (tCB (rLenS K) (tCons (tVar 1) tNil)) (tC (.int 60))) (tCons (tUn (rU fun i => .int (-i)) (tC (.int 1))) tNil))))
    (tSeq (tDrop (tCall (spE CR R_ask_numbers) [] E (tCons (tVar 1) tNil)))
    (tSeq (sFld K (tVar 0) (tCB (rListS K) (tCons (tVar 1) tNil)) "lines")
    (tRet (tLst (tCons (tCB (rLenS K) (tCons (tVar 1) tNil)) tNil))))))
theorem d_sheet {P : Program} {w : World} {K : PySem.W.Frag} {mg : Str → Option Value} {base : Heap} {C CR : Addr} (T : Tx K mg C CR) (f : Addr) (cdv : Value) (A : Around) (outer : List Env) (s : Shared) (H : Hp) (E : XK) (hr : Room 5 (A.deeper (envOfC "sheet" (defScope s_sheet) s.heap.objs.size f cdv))) :
    PSs (cxOf (L2.CX P w) P w K mg base N_sheet "sheet" (defScope s_sheet) f cdv A outer s H E) (defBody s_sheet) (t_sheet K C CR E) := by
  have hx : Passes (L2.CX P w) (cxOf (L2.CX P w) P w K mg base N_sheet "sheet" (defScope s_sheet) f cdv A outer s H E) E := passes_call (takes_of rfl rfl rfl rfl) (fun _ _ _ _ h => h)
  exact (pss_cons (ps_expr (pe_calX (cal_ask T) hr (by decide) (by rfl) hx (pa_cons (pe_cmpR op_le (pe_callB call_len_seq (by rfl) T.b_len PySem.boot_len (pa_cons (pv 1) pa_nil)) (pe_gI (by rfl) T.g_MOST_LINES) (nomark _)) (pa_cons (pe_un un_neg pe_int) pa_nil))))
    (pss_cons (ps_expr (pe_calX (cal_ask_numbers T) hr (by decide) (by rfl) hx (pa_cons (pv 1) pa_nil)))
    (pss_cons (ps_fld (pv 0) (pe_callTy call_list_of (by rfl) T.b_list PyProof.Rows.boot_list (pa_cons (pv 1) pa_nil)) rfl)
    (pss_one (ps_ret (pe_lst (pa_cons (pe_callB call_len_seq (by rfl) T.b_len PySem.boot_len (pa_cons (pv 1) pa_nil)) pa_nil)))))))
theorem run_sheet {K : PySem.W.Frag} {mg : Str → Option Value} {C CR : Addr} (T : Tx K mg C CR) (c : Cc) (E : XK) (m : Dk) (ds : List PyData) (r : Res) (hc : c.C = C) (hm : c.mu = true) (h : R_sheet m ds r) (hE : ∀ z e H', r = .no z → Out c H' m → H' e = some (xdN z) → E (.ref CR) (some e) H') :
    Rn c (t_sheet K C CR E) (entryK N_sheet ds) m (fun _ m' => r = .ok .none m') (fun d m' => r = .ok d m') := by
  obtain ⟨l, rfl, rfl⟩ := h
  refine q_ask (a_cons (e_C0 (e_lenI (e_var rfl).q) e_int) (a_cons (e_neg e_int) a_nil)) (fun h1 => ?_) (fun h1 e H' o he => hE _ e H' (if_neg (by have := of_decide_eq_false h1; omega)) o he)
  have h1 : l.length ≤ 60 := by have := of_decide_eq_true h1; omega
  refine q_numbers (a_cons (e_var rfl) a_nil) (fun h2 => ?_) (fun h2 e H' o he => hE _ e H' (by unfold sheetF; rw [if_pos h1, if_neg h2]) o he)
  refine r_seq (r_putL T hc hm rfl (n_list (e_var rfl).q).s ?_)
  refine r_ret (n_lst (a_cons (e_lenI (e_var rfl).q) a_nil) (by show 1 ≤ _; decide)).s ?_
  unfold sheetF
  rw [if_pos h1, if_pos h2] <;> rfl
theorem cal_sheet {P : Program} {w : World} {K : PySem.W.Frag} {mg : Str → Option Value} {base : Heap} {C CR : Addr} (T : Tx K mg C CR) : CalX P w K mg base (L2.CX P w) 6 "sheet" (spK C CR R_sheet) :=
  cal_ofX T.d_sheet sc_sheet bi_sheet (spK_len len_sheet) (d_sheet T) (pureK_of (run_sheet T))

/-! #### change -/
def changeF (m : Dk) (i v : Int) : Res := if 0 ≤ i ∧ i ≤ (m.lines.length : Int) - 1 then (if Vbcead.isGreat v = true then .ok (dI [0, m.lines.getD i.toNat 0]) { m with lines := m.lines.set i.toNat v } else .no (-1)) else .no (-1)
def R_change (m : Dk) (ds : List PyData) (r : Res) : Prop := ∃ i v : Int, ds = [.int i, .int v] ∧ Good m ∧ r = changeF m i v
theorem len_change : ∀ m ds r, R_change m ds r → ds.length + 1 = 3 := fun _ _ _ ⟨_, _, h, _⟩ => by rw [h] <;> rfl
theorem cutI_from (l : List Int) (b : Nat) (h : b ≤ l.length) : cutI l (some (b : Int)) none = l.drop b := by
  unfold cutI
  rw [HT.sIx_nat, HT.sIx_none, show min b l.length = b by omega]
  exact List.take_of_length_le (by rw [List.length_drop]; omega)
theorem set_cut {l : List Int} {i : Nat} (v : Int) (h : i < l.length) : l.take i ++ [v] ++ l.drop (i + 1) = l.set i v := by
  rw [List.set_eq_take_append_cons_drop, if_pos h, List.append_assoc] <;> rfl
abbrev s_change : Stmt := top 62
abbrev N_change : List Str := ["desk", "i", "v", "was"]
theorem sc_change : FnScope N_change ["desk", "i", "v"] (defScope s_change) := C8.fnScope_by (by decide +kernel)
theorem bi_change : BindsAt "change" s_change ["desk", "i", "v"] := fun _ _ _ _ _ _ us hl => match us, hl with | [_, _, _], _ => rfl
def t_change (K : PySem.W.Frag) (C CR : Addr) (E : XK) : TS :=
  (tSeq (tDrop (tCall (spE CR R_ask_within) [] E (tCons (tVar 1) (tCons (tC (.int 0)) (tCons (tOp (rI0 fun i j => .int (i - j)) (tCB (rLenS K) (tCons (tFld K (tVar 0) "lines") tNil)) (tC (.int 1))) tNil)))))
    (tSeq (tDrop (tCall (spE CR R_ask_numbers) [] E (tCons (tLst (tCons (tVar 2) tNil)) tNil)))
    (tSeq (tAsg (tOp (rIxL K) (tFld K (tVar 0) "lines") (tVar 1)) (gName 3))
    (tSeq (sFld K (tVar 0) (tOp rCat (tOp rCat (tSl (rSlL K) (tFld K (tVar 0) "lines") tNoPart (tPart (tVar 1))) (tLst (tCons (tVar 2) tNil))) (tSl (rSlL K) (tFld K (tVar 0) "lines") (tPart (tOp (rI0 fun i j => .int (i + j)) (tVar 1) (tC (.int 1)))) tNoPart)) "lines")
    (tRet (tLst (tCons (tC (.int 0)) (tCons (tVar 3) tNil))))))))
theorem d_change {P : Program} {w : World} {K : PySem.W.Frag} {mg : Str → Option Value} {base : Heap} {C CR : Addr} (T : Tx K mg C CR) (f : Addr) (cdv : Value) (A : Around) (outer : List Env) (s : Shared) (H : Hp) (E : XK) (hr : Room 5 (A.deeper (envOfC "change" (defScope s_change) s.heap.objs.size f cdv))) :
    PSs (cxOf (L2.CX P w) P w K mg base N_change "change" (defScope s_change) f cdv A outer s H E) (defBody s_change) (t_change K C CR E) := by
  have hx : Passes (L2.CX P w) (cxOf (L2.CX P w) P w K mg base N_change "change" (defScope s_change) f cdv A outer s H E) E := passes_call (takes_of rfl rfl rfl rfl) (fun _ _ _ _ h => h)
  exact (pss_cons (ps_expr (pe_calX (cal_ask_within T) hr (by decide) (by rfl) hx (pa_cons (pv 1) (pa_cons pe_int (pa_cons (pe_op op_sub (pe_callB call_len_seq (by rfl) T.b_len PySem.boot_len (pa_cons (pe_fld (pv 0) rfl) pa_nil)) pe_int) pa_nil)))))
    (pss_cons (ps_expr (pe_calX (cal_ask_numbers T) hr (by decide) (by rfl) hx (pa_cons (pe_lst (pa_cons (pv 2) pa_nil)) pa_nil)))
    (pss_cons (ps_set (i := 3) sc_change.nd rfl (Or.inl rfl) (pe_ix ix_list (pe_fld (pv 0) rfl) (pv 1) (fun _ _ => rfl)))
    (pss_cons (ps_fld (pv 0) (pe_op op_cat (pe_op op_cat (pe_slice sl_list (pe_fld (pv 0) rfl) po_none (po_some (pv 1))) (pe_lst (pa_cons (pv 2) pa_nil))) (pe_slice sl_list (pe_fld (pv 0) rfl) (po_some (pe_op op_add (pv 1) pe_int)) po_none)) rfl)
    (pss_one (ps_ret (pe_lst (pa_cons pe_int (pa_cons (pv 3) pa_nil)))))))))
theorem run_change {K : PySem.W.Frag} {mg : Str → Option Value} {C CR : Addr} (T : Tx K mg C CR) (c : Cc) (E : XK) (m : Dk) (ds : List PyData) (r : Res) (hc : c.C = C) (hm : c.mu = true) (h : R_change m ds r) (hE : ∀ z e H', r = .no z → Out c H' m → H' e = some (xdN z) → E (.ref CR) (some e) H') :
    Rn c (t_change K C CR E) (entryK N_change ds) m (fun _ m' => r = .ok .none m') (fun d m' => r = .ok d m') := by
  obtain ⟨i, v, rfl, hg, rfl⟩ := h
  have hll := hg.ll
  refine q_within (a_cons (e_var rfl) (a_cons e_int (a_cons (e_I0 (e_lenI (e_lines T hc rfl).q) e_int) a_nil))) (fun h1 => ?_) (fun h1 e H' o he => hE _ e H' (if_neg h1) o he)
  refine q_numbers (l := [v]) (a_cons (n_lst (a_cons (e_var rfl) a_nil) (by show 1 ≤ _; decide)).s a_nil) (fun h2 => ?_) (fun h2 e H' o he => hE _ e H' (by unfold changeF; rw [if_pos h1, if_neg (fun q => h2 (by simpa using q))]) o he)
  have h2 : Vbcead.isGreat v = true := by simpa using h2
  obtain ⟨k, rfl⟩ : ∃ k : Nat, i = (k : Int) := ⟨i.toNat, by omega⟩
  have hk : k < m.lines.length := by omega
  refine r_seq (r_asg (e_ixI (e_lines T hc rfl).q (e_var rfl) (by omega) (by omega)) ?_)
  have l1 : (m.lines.take k).length ≤ 60 := by rw [List.length_take]; omega
  have l2 : (m.lines.drop (k + 1)).length ≤ 60 := by rw [List.length_drop]; omega
  refine r_seq (r_putL T hc hm (l := m.lines.set k v) rfl ((n_cat (n_cat ((n_sliceI (e_lines T hc rfl).q o_none (o_some (e_var rfl))).q.is (by rw [cutI_to])) (n_lst (a_cons (e_var rfl) a_nil) (by show 1 ≤ _; decide)).q (by rw [List.length_map]; show _ + 1 ≤ _; omega)).q ((n_sliceI (e_lines T hc rfl).q (o_some ((e_I0 (e_var rfl) e_int).is (show _ = PyData.int ((k + 1 : Nat) : Int) by congr 1))) o_none).q.is (by rw [cutI_from _ _ (by omega)])) ?_).s.is ?_) ?_)
  · rw [List.length_append, List.length_map, List.length_map]
    show _ + 1 + _ ≤ _
    omega
  · rw [← set_cut v hk]
    show _ = PyData.list (nI (List.take k m.lines ++ [v] ++ List.drop (k + 1) m.lines))
    rw [← nI_append, ← nI_append] <;> rfl
  · refine r_ret (n_lst (a_cons e_int (a_cons (e_var rfl) a_nil)) (by show 2 ≤ _; decide)).s ?_
    unfold changeF
    rw [if_pos h1, if_pos h2, Int.toNat_natCast] <;> rfl
theorem cal_change {P : Program} {w : World} {K : PySem.W.Frag} {mg : Str → Option Value} {base : Heap} {C CR : Addr} (T : Tx K mg C CR) : CalX P w K mg base (L2.CX P w) 6 "change" (spK C CR R_change) :=
  cal_ofX T.d_change sc_change bi_change (spK_len len_change) (d_change T) (pureK_of (run_change T))

/-! #### differences_told -/
def diffF (m : Dk) (k : Int) : Res := if 0 ≤ k ∧ k ≤ 12 then .ok (dI (toldM (Vbcead.differences k.toNat m.lines))) m else .no (-1)
def R_differences_told (m : Dk) (ds : List PyData) (r : Res) : Prop := ∃ k : Int, ds = [.int k] ∧ Good m ∧ r = diffF m k
theorem len_differences_told : ∀ m ds r, R_differences_told m ds r → ds.length + 1 = 2 := fun _ _ _ ⟨_, h, _⟩ => by rw [h] <;> rfl
abbrev s_differences_told : Stmt := top 63
abbrev N_differences_told : List Str := ["desk", "k"]
theorem sc_differences_told : FnScope N_differences_told ["desk", "k"] (defScope s_differences_told) := C8.fnScope_by (by decide +kernel)
theorem bi_differences_told : BindsAt "differences_told" s_differences_told ["desk", "k"] := fun _ _ _ _ _ _ us hl => match us, hl with | [_, _], _ => rfl
def t_differences_told (K : PySem.W.Frag) (C CR : Addr) (E : XK) : TS :=
  (tSeq (tDrop (tCall (spE CR R_ask_within) [] E (tCons (tVar 1) (tCons (tC (.int 0)) (tCons (tC (.int 12)) tNil)))))
    (tRet (tCall (spD R_told) [] E0 (tCons (tCall (spD R_differences) [] E0 (tCons (tFld K (tVar 0) "lines") (tCons (tVar 1) tNil))) tNil))))
theorem d_differences_told {P : Program} {w : World} {K : PySem.W.Frag} {mg : Str → Option Value} {base : Heap} {C CR : Addr} (T : Tx K mg C CR) (f : Addr) (cdv : Value) (A : Around) (outer : List Env) (s : Shared) (H : Hp) (E : XK) (hr : Room 4 (A.deeper (envOfC "differences_told" (defScope s_differences_told) s.heap.objs.size f cdv))) :
    PSs (cxOf (L2.CX P w) P w K mg base N_differences_told "differences_told" (defScope s_differences_told) f cdv A outer s H E) (defBody s_differences_told) (t_differences_told K C CR E) := by
  have hx : Passes (L2.CX P w) (cxOf (L2.CX P w) P w K mg base N_differences_told "differences_told" (defScope s_differences_told) f cdv A outer s H E) E := passes_call (takes_of rfl rfl rfl rfl) (fun _ _ _ _ h => h)
  exact (pss_cons (ps_expr (pe_calX (cal_ask_within T) hr (by decide) (by rfl) hx (pa_cons (pv 1) (pa_cons pe_int (pa_cons (pe_gI (by rfl) T.g_MOST_DIFFERENCE) pa_nil)))))
    (pss_one (ps_ret (pe_cal (cal_told T) hr (by decide) (by rfl) (pa_cons (pe_cal (cal_differences T) hr (by decide) (by rfl) (pa_cons (pe_fld (pv 0) rfl) (pa_cons (pv 1) pa_nil))) pa_nil)))))
theorem run_differences_told {K : PySem.W.Frag} {mg : Str → Option Value} {C CR : Addr} (T : Tx K mg C CR) (c : Cc) (E : XK) (m : Dk) (ds : List PyData) (r : Res) (hc : c.C = C) (hm : c.mu = true) (h : R_differences_told m ds r) (hE : ∀ z e H', r = .no z → Out c H' m → H' e = some (xdN z) → E (.ref CR) (some e) H') :
    Rn c (t_differences_told K C CR E) (entryK N_differences_told ds) m (fun _ m' => r = .ok .none m') (fun d m' => r = .ok d m') := by
  obtain ⟨k, rfl, hg, rfl⟩ := h
  have hll := hg.ll
  refine q_within (a_cons (e_var rfl) (a_cons e_int (a_cons e_int a_nil))) (fun h1 => ?_) (fun h1 e H' o he => hE _ e H' (if_neg h1) o he)
  have ek : (k.toNat : Int) = k := by omega
  have hd := diffs_len k.toNat m.lines
  exact r_ret (e_call (a_cons (e_call (a_cons (e_lines T hc rfl) (a_cons (e_var rfl) a_nil)) ⟨m.lines, k.toNat, by rw [ek] <;> rfl, by omega, rfl⟩) a_nil) ⟨_, rfl, by omega, rfl⟩) (if_pos h1)
theorem cal_differences_told {P : Program} {w : World} {K : PySem.W.Frag} {mg : Str → Option Value} {base : Heap} {C CR : Addr} (T : Tx K mg C CR) : CalX P w K mg base (L2.CX P w) 5 "differences_told" (spK C CR R_differences_told) :=
  cal_ofX T.d_differences_told sc_differences_told bi_differences_told (spK_len len_differences_told) (d_differences_told T) (pureK_of (run_differences_told T))

/-! #### start_told -/
def startF (m : Dk) (k : Int) : Res := if 1 ≤ k ∧ k ≤ 7 then (if k + 0 ≤ (m.lines.length : Int) then .ok (dI (toldM (Vbcead.leading k.toNat m.lines))) m else .no (-5)) else .no (-1)
def R_start_told (m : Dk) (ds : List PyData) (r : Res) : Prop := ∃ k : Int, ds = [.int k] ∧ Good m ∧ r = startF m k
theorem len_start_told : ∀ m ds r, R_start_told m ds r → ds.length + 1 = 2 := fun _ _ _ ⟨_, h, _⟩ => by rw [h] <;> rfl
theorem kF_no {m : Dk} {k more z : Int} (h : kF m k more = .no z) {r : Res} {x : Res} (hr : r = if 1 ≤ k ∧ k ≤ 7 then (if k + more ≤ (m.lines.length : Int) then x else .no (-5)) else .no (-1)) : r = .no z := by
  subst hr
  unfold kF at h
  by_cases h1 : 1 ≤ k ∧ k ≤ 7
  · rw [if_pos h1] at h ⊢
    by_cases h2 : k + more ≤ (m.lines.length : Int)
    · rw [if_pos h2] at h
      cases h
    · rw [if_neg h2] at h ⊢
      exact h
  · rw [if_neg h1] at h ⊢
    exact h
theorem leading_len (k : Nat) (l : List Int) : (Vbcead.leading k l).length = k := by unfold Vbcead.leading; rw [List.length_map, List.length_range]
abbrev s_start_told : Stmt := top 64
abbrev N_start_told : List Str := ["desk", "k"]
theorem sc_start_told : FnScope N_start_told ["desk", "k"] (defScope s_start_told) := C8.fnScope_by (by decide +kernel)
theorem bi_start_told : BindsAt "start_told" s_start_told ["desk", "k"] := fun _ _ _ _ _ _ us hl => match us, hl with | [_, _], _ => rfl
def t_start_told (K : PySem.W.Frag) (C CR : Addr) (E : XK) : TS :=
  (tSeq (tDrop (tCall (spK C CR R_ask_k) [] E (tCons (tVar 0) (tCons (tVar 1) (tCons (tC (.int 0)) tNil)))))
    (tRet (tCall (spD R_told) [] E0 (tCons (tCall (spD R_start_of) [] E0 (tCons (tFld K (tVar 0) "lines") (tCons (tVar 1) tNil))) tNil))))
theorem d_start_told {P : Program} {w : World} {K : PySem.W.Frag} {mg : Str → Option Value} {base : Heap} {C CR : Addr} (T : Tx K mg C CR) (f : Addr) (cdv : Value) (A : Around) (outer : List Env) (s : Shared) (H : Hp) (E : XK) (hr : Room 5 (A.deeper (envOfC "start_told" (defScope s_start_told) s.heap.objs.size f cdv))) :
    PSs (cxOf (L2.CX P w) P w K mg base N_start_told "start_told" (defScope s_start_told) f cdv A outer s H E) (defBody s_start_told) (t_start_told K C CR E) := by
  have hx : Passes (L2.CX P w) (cxOf (L2.CX P w) P w K mg base N_start_told "start_told" (defScope s_start_told) f cdv A outer s H E) E := passes_call (takes_of rfl rfl rfl rfl) (fun _ _ _ _ h => h)
  exact (pss_cons (ps_expr (pe_calX (cal_ask_k T) hr (by decide) (by rfl) hx (pa_cons (pv 0) (pa_cons (pv 1) (pa_cons pe_int pa_nil)))))
    (pss_one (ps_ret (pe_cal (cal_told T) hr (by decide) (by rfl) (pa_cons (pe_cal (cal_start_of T) hr (by decide) (by rfl) (pa_cons (pe_fld (pv 0) rfl) (pa_cons (pv 1) pa_nil))) pa_nil)))))
theorem run_start_told {K : PySem.W.Frag} {mg : Str → Option Value} {C CR : Addr} (T : Tx K mg C CR) (c : Cc) (E : XK) (m : Dk) (ds : List PyData) (r : Res) (hc : c.C = C) (hm : c.mu = true) (h : R_start_told m ds r) (hE : ∀ z e H', r = .no z → Out c H' m → H' e = some (xdN z) → E (.ref CR) (some e) H') :
    Rn c (t_start_told K C CR E) (entryK N_start_told ds) m (fun _ m' => r = .ok .none m') (fun d m' => r = .ok d m') := by
  obtain ⟨k, rfl, hg, rfl⟩ := h
  have hll := hg.ll
  refine q_k hc hm rfl (a_cons (e_var rfl) (a_cons e_int a_nil)) (fun h1 h2 => ?_) (fun z hz e H' o he => hE z e H' (kF_no hz rfl) o he)
  have ek : (k.toNat : Int) = k := by omega
  refine r_ret (e_call (a_cons (e_call (a_cons (e_lines T hc rfl) (a_cons (e_var rfl) a_nil)) ⟨m.lines, k.toNat, by rw [ek] <;> rfl, by omega, by omega, rfl⟩) a_nil) ⟨_, rfl, by rw [leading_len]; omega, rfl⟩) ?_
  unfold startF
  rw [if_pos h1, if_pos h2]
theorem cal_start_told {P : Program} {w : World} {K : PySem.W.Frag} {mg : Str → Option Value} {base : Heap} {C CR : Addr} (T : Tx K mg C CR) : CalX P w K mg base (L2.CX P w) 6 "start_told" (spK C CR R_start_told) :=
  cal_ofX T.d_start_told sc_start_told bi_start_told (spK_len len_start_told) (d_start_told T) (pureK_of (run_start_told T))

/-! #### value -/
def valueF (m : Dk) (k x : Int) : Res := if 1 ≤ k ∧ k ≤ 7 then (if 0 - 1000000 ≤ x ∧ x ≤ 1000000 then (if k + 0 ≤ (m.lines.length : Int) then .ok (dI [0, Vbcead.valueAt (Vbcead.leading k.toNat m.lines) x]) m else .no (-5)) else .no (-1)) else .no (-1)
def R_value (m : Dk) (ds : List PyData) (r : Res) : Prop := ∃ k x : Int, ds = [.int k, .int x] ∧ Good m ∧ r = valueF m k x
theorem len_value : ∀ m ds r, R_value m ds r → ds.length + 1 = 3 := fun _ _ _ ⟨_, _, h, _⟩ => by rw [h] <;> rfl
theorem diffOnce_lt {b : Nat} : ∀ l : List Int, (∀ a ∈ l, a.natAbs < 2 ^ b) → ∀ a ∈ Vbcead.differencesOnce l, a.natAbs < 2 ^ (b + 1)
  | [], _, a, h => absurd h (by simp [Vbcead.differencesOnce])
  | [_], _, a, h => absurd h (by simp [Vbcead.differencesOnce])
  | x :: y :: l, hb, a, h => by
    have h' : a ∈ (y - x) :: Vbcead.differencesOnce (y :: l) := h
    rcases List.mem_cons.mp h' with rfl | h'
    · have h1 := hb x List.mem_cons_self
      have h2 := hb y (List.mem_cons_of_mem _ List.mem_cons_self)
      rw [Nat.pow_succ]
      omega
    · exact diffOnce_lt (y :: l) (fun a ha => hb a (List.mem_cons_of_mem _ ha)) a h'
theorem diffs_lt {b : Nat} {l : List Int} (hb : ∀ a ∈ l, a.natAbs < 2 ^ b) : ∀ k, ∀ a ∈ Vbcead.differences k l, a.natAbs < 2 ^ (b + k)
  | 0, a, h => hb a h
  | k + 1, a, h => by
    rw [diffs_succ] at h
    exact diffOnce_lt _ (diffs_lt hb k) a h
theorem leading_lt {l : List Int} (hb : ∀ a ∈ l, a.natAbs < 2 ^ 110) {k : Nat} (hk : k ≤ 60) : ∀ a ∈ Vbcead.leading k l, a.natAbs < 2 ^ 200 := fun a ha => by
  unfold Vbcead.leading at ha
  obtain ⟨j, hj, rfl⟩ := List.mem_map.mp ha
  have hj := List.mem_range.mp hj
  have := diffs_lt hb j
  cases e : Vbcead.differences j l with
  | nil => show (0 : Int).natAbs < 2 ^ 200; decide
  | cons z r =>
    rw [e] at this
    exact Nat.lt_of_lt_of_le (this z List.mem_cons_self) (pow_mono2 (by omega))
abbrev s_value : Stmt := top 65
abbrev N_value : List Str := ["desk", "k", "x"]
theorem sc_value : FnScope N_value ["desk", "k", "x"] (defScope s_value) := C8.fnScope_by (by decide +kernel)
theorem bi_value : BindsAt "value" s_value ["desk", "k", "x"] := fun _ _ _ _ _ _ us hl => match us, hl with | [_, _, _], _ => rfl
def t_value (K : PySem.W.Frag) (C CR : Addr) (E : XK) : TS :=
  (tSeq (tDrop (tCall (spE CR R_ask_within) [] E (tCons (tVar 1) (tCons (tC (.int 1)) (tCons (tC (.int 7)) tNil)))))
    (tSeq (tDrop (tCall (spE CR R_ask_within) [] E (tCons (tVar 2) (tCons (tOp (rI0 fun i j => .int (i - j)) (tC (.int 0)) (tC (.int 1000000))) (tCons (tC (.int 1000000)) tNil)))))
    (tSeq (tDrop (tCall (spK C CR R_ask_k) [] E (tCons (tVar 0) (tCons (tVar 1) (tCons (tC (.int 0)) tNil)))))
    (tRet (tLst (tCons (tC (.int 0)) (tCons (tCall (spD R_value_by) [] E0 (tCons (tCall (spD R_start_of) [] E0 (tCons (tFld K (tVar 0) "lines") (tCons (tVar 1) tNil))) (tCons (tVar 2) tNil))) tNil)))))))
theorem d_value {P : Program} {w : World} {K : PySem.W.Frag} {mg : Str → Option Value} {base : Heap} {C CR : Addr} (T : Tx K mg C CR) (f : Addr) (cdv : Value) (A : Around) (outer : List Env) (s : Shared) (H : Hp) (E : XK) (hr : Room 5 (A.deeper (envOfC "value" (defScope s_value) s.heap.objs.size f cdv))) :
    PSs (cxOf (L2.CX P w) P w K mg base N_value "value" (defScope s_value) f cdv A outer s H E) (defBody s_value) (t_value K C CR E) := by
  have hx : Passes (L2.CX P w) (cxOf (L2.CX P w) P w K mg base N_value "value" (defScope s_value) f cdv A outer s H E) E := passes_call (takes_of rfl rfl rfl rfl) (fun _ _ _ _ h => h)
  exact (pss_cons (ps_expr (pe_calX (cal_ask_within T) hr (by decide) (by rfl) hx (pa_cons (pv 1) (pa_cons pe_int (pa_cons (pe_gI (by rfl) T.g_MOST_COLUMNS) pa_nil)))))
    (pss_cons (ps_expr (pe_calX (cal_ask_within T) hr (by decide) (by rfl) hx (pa_cons (pv 2) (pa_cons (pe_op op_sub pe_int (pe_gI (by rfl) T.g_MOST_X)) (pa_cons (pe_gI (by rfl) T.g_MOST_X) pa_nil)))))
    (pss_cons (ps_expr (pe_calX (cal_ask_k T) hr (by decide) (by rfl) hx (pa_cons (pv 0) (pa_cons (pv 1) (pa_cons pe_int pa_nil)))))
    (pss_one (ps_ret (pe_lst (pa_cons pe_int (pa_cons (pe_cal (cal_value_by T) hr (by decide) (by rfl) (pa_cons (pe_cal (cal_start_of T) hr (by decide) (by rfl) (pa_cons (pe_fld (pv 0) rfl) (pa_cons (pv 1) pa_nil))) (pa_cons (pv 2) pa_nil))) pa_nil))))))))
theorem run_value {K : PySem.W.Frag} {mg : Str → Option Value} {C CR : Addr} (T : Tx K mg C CR) (c : Cc) (E : XK) (m : Dk) (ds : List PyData) (r : Res) (hc : c.C = C) (hm : c.mu = true) (h : R_value m ds r) (hE : ∀ z e H', r = .no z → Out c H' m → H' e = some (xdN z) → E (.ref CR) (some e) H') :
    Rn c (t_value K C CR E) (entryK N_value ds) m (fun _ m' => r = .ok .none m') (fun d m' => r = .ok d m') := by
  obtain ⟨k, x, rfl, hg, rfl⟩ := h
  have hll := hg.ll
  refine q_within (a_cons (e_var rfl) (a_cons e_int (a_cons e_int a_nil))) (fun h1 => ?_) (fun h1 e H' o he => hE _ e H' (if_neg h1) o he)
  refine q_within (a_cons (e_var rfl) (a_cons (e_I0 e_int e_int) (a_cons e_int a_nil))) (fun hx => ?_) (fun hx e H' o he => hE _ e H' (by unfold valueF; rw [if_pos h1, if_neg hx]) o he)
  refine q_k hc hm rfl (a_cons (e_var rfl) (a_cons e_int a_nil)) (fun _ h2 => ?_) (fun z hz e H' o he => hE z e H' (by
    unfold valueF
    rw [if_pos h1, if_pos hx]
    have := kF_no hz (x := .ok (dI [0, Vbcead.valueAt (Vbcead.leading k.toNat m.lines) x]) m) rfl
    rw [if_pos h1] at this
    exact this) o he)
  have ek : (k.toNat : Int) = k := by omega
  refine r_ret (n_lst (a_cons e_int (a_cons (e_call (a_cons (e_call (a_cons (e_lines T hc rfl) (a_cons (e_var rfl) a_nil)) ⟨m.lines, k.toNat, by rw [ek] <;> rfl, by omega, by omega, rfl⟩) (a_cons (e_var rfl) a_nil)) ⟨_, x, rfl, by rw [leading_len]; omega, leading_lt hg.lb (by omega), by omega, rfl⟩) a_nil)) (by show 2 ≤ _; decide)).s ?_
  unfold valueF
  rw [if_pos h1, if_pos hx, if_pos h2] <;> rfl
theorem cal_value {P : Program} {w : World} {K : PySem.W.Frag} {mg : Str → Option Value} {base : Heap} {C CR : Addr} (T : Tx K mg C CR) : CalX P w K mg base (L2.CX P w) 6 "value" (spK C CR R_value) :=
  cal_ofX T.d_value sc_value bi_value (spK_len len_value) (d_value T) (pureK_of (run_value T))

/-! #### clean -/
def cleanF (m : Dk) (k : Int) : Res := if 1 ≤ k ∧ k ≤ 7 then .ok (dI [if Vbcead.clean k.toNat m.lines = true then 1 else 0]) m else .no (-1)
def R_clean (m : Dk) (ds : List PyData) (r : Res) : Prop := ∃ k : Int, ds = [.int k] ∧ Good m ∧ r = cleanF m k
theorem len_clean : ∀ m ds r, R_clean m ds r → ds.length + 1 = 2 := fun _ _ _ ⟨_, h, _⟩ => by rw [h] <;> rfl
abbrev s_clean : Stmt := top 66
abbrev N_clean : List Str := ["desk", "k"]
theorem sc_clean : FnScope N_clean ["desk", "k"] (defScope s_clean) := C8.fnScope_by (by decide +kernel)
theorem bi_clean : BindsAt "clean" s_clean ["desk", "k"] := fun _ _ _ _ _ _ us hl => match us, hl with | [_, _], _ => rfl
def t_clean (K : PySem.W.Frag) (C CR : Addr) (E : XK) : TS :=
  (tSeq (tDrop (tCall (spE CR R_ask_within) [] E (tCons (tVar 1) (tCons (tC (.int 1)) (tCons (tC (.int 7)) tNil)))))
    (tRet (tLst (tCons (tCB rInt1 (tCons (tCall (spD R_is_below) [] E0 (tCons (tFld K (tVar 0) "lines") (tCons (tVar 1) tNil))) tNil)) tNil))))
theorem d_clean {P : Program} {w : World} {K : PySem.W.Frag} {mg : Str → Option Value} {base : Heap} {C CR : Addr} (T : Tx K mg C CR) (f : Addr) (cdv : Value) (A : Around) (outer : List Env) (s : Shared) (H : Hp) (E : XK) (hr : Room 4 (A.deeper (envOfC "clean" (defScope s_clean) s.heap.objs.size f cdv))) :
    PSs (cxOf (L2.CX P w) P w K mg base N_clean "clean" (defScope s_clean) f cdv A outer s H E) (defBody s_clean) (t_clean K C CR E) := by
  have hx : Passes (L2.CX P w) (cxOf (L2.CX P w) P w K mg base N_clean "clean" (defScope s_clean) f cdv A outer s H E) E := passes_call (takes_of rfl rfl rfl rfl) (fun _ _ _ _ h => h)
  exact (pss_cons (ps_expr (pe_calX (cal_ask_within T) hr (by decide) (by rfl) hx (pa_cons (pv 1) (pa_cons pe_int (pa_cons (pe_gI (by rfl) T.g_MOST_COLUMNS) pa_nil)))))
    (pss_one (ps_ret (pe_lst (pa_cons (pe_callTy call_int1 (by rfl) T.b_int PyProof.Rows.boot_int (pa_cons (pe_cal (cal_is_below T) hr (by decide) (by rfl) (pa_cons (pe_fld (pv 0) rfl) (pa_cons (pv 1) pa_nil))) pa_nil)) pa_nil)))))
theorem run_clean {K : PySem.W.Frag} {mg : Str → Option Value} {C CR : Addr} (T : Tx K mg C CR) (c : Cc) (E : XK) (m : Dk) (ds : List PyData) (r : Res) (hc : c.C = C) (hm : c.mu = true) (h : R_clean m ds r) (hE : ∀ z e H', r = .no z → Out c H' m → H' e = some (xdN z) → E (.ref CR) (some e) H') :
    Rn c (t_clean K C CR E) (entryK N_clean ds) m (fun _ m' => r = .ok .none m') (fun d m' => r = .ok d m') := by
  obtain ⟨k, rfl, hg, rfl⟩ := h
  have hll := hg.ll
  refine q_within (a_cons (e_var rfl) (a_cons e_int (a_cons e_int a_nil))) (fun h1 => ?_) (fun h1 e H' o he => hE _ e H' (if_neg h1) o he)
  have ek : (k.toNat : Int) = k := by omega
  exact r_ret (n_lst (a_cons (e_intB (e_call (a_cons (e_lines T hc rfl) (a_cons (e_var rfl) a_nil)) ⟨m.lines, k.toNat, by rw [ek] <;> rfl, by omega, rfl⟩)) a_nil) (by show 1 ≤ _; decide)).s (if_pos h1)
theorem cal_clean {P : Program} {w : World} {K : PySem.W.Frag} {mg : Str → Option Value} {base : Heap} {C CR : Addr} (T : Tx K mg C CR) : CalX P w K mg base (L2.CX P w) 5 "clean" (spK C CR R_clean) :=
  cal_ofX T.d_clean sc_clean bi_clean (spK_len len_clean) (d_clean T) (pureK_of (run_clean T))

/-! #### clerk_told -/
def clerkL (l : List Int) (k : Nat) : List Int := if Vbcead.clean k l = true then [2] else if clerkM k l = [] then [0] else 1 :: clerkM k l
def clerkF (m : Dk) (k : Int) : Res := if 1 ≤ k ∧ k ≤ 7 then (if k + 1 ≤ (m.lines.length : Int) then .ok (dI (clerkL m.lines k.toNat)) m else .no (-5)) else .no (-1)
def R_clerk_told (m : Dk) (ds : List PyData) (r : Res) : Prop := ∃ k : Int, ds = [.int k] ∧ Good m ∧ r = clerkF m k
theorem len_clerk_told : ∀ m ds r, R_clerk_told m ds r → ds.length + 1 = 2 := fun _ _ _ ⟨_, h, _⟩ => by rw [h] <;> rfl
theorem clerkM_len (k : Nat) (l : List Int) : (clerkM k l).length ≤ 2 := by
  unfold clerkM
  split <;> simp
abbrev s_clerk_told : Stmt := top 67
abbrev N_clerk_told : List Str := ["desk", "k", "found"]
theorem sc_clerk_told : FnScope N_clerk_told ["desk", "k"] (defScope s_clerk_told) := C8.fnScope_by (by decide +kernel)
theorem bi_clerk_told : BindsAt "clerk_told" s_clerk_told ["desk", "k"] := fun _ _ _ _ _ _ us hl => match us, hl with | [_, _], _ => rfl
def t_clerk_told (K : PySem.W.Frag) (C CR : Addr) (E : XK) : TS :=
  (tSeq (tDrop (tCall (spK C CR R_ask_k) [] E (tCons (tVar 0) (tCons (tVar 1) (tCons (tC (.int 1)) tNil)))))
    (tSeq (tIfS (tB (tCall (spD R_is_below) [] E0 (tCons (tFld K (tVar 0) "lines") (tCons (tVar 1) tNil)))) (tRet (tLst (tCons (tC (.int 2)) tNil))) tNext)
    (tSeq (tAsg (tCall (spD R_clerk) [] E0 (tCons (tFld K (tVar 0) "lines") (tCons (tVar 1) tNil))) (gName 2))
    (tSeq (tIfS (tTest (tOp (rEqD K) (tVar 2) (tLst tNil))) (tRet (tLst (tCons (tC (.int 0)) tNil))) tNext)
    (tRet (tOp rCat (tLst (tCons (tC (.int 1)) tNil)) (tVar 2)))))))
theorem d_clerk_told {P : Program} {w : World} {K : PySem.W.Frag} {mg : Str → Option Value} {base : Heap} {C CR : Addr} (T : Tx K mg C CR) (f : Addr) (cdv : Value) (A : Around) (outer : List Env) (s : Shared) (H : Hp) (E : XK) (hr : Room 5 (A.deeper (envOfC "clerk_told" (defScope s_clerk_told) s.heap.objs.size f cdv))) :
    PSs (cxOf (L2.CX P w) P w K mg base N_clerk_told "clerk_told" (defScope s_clerk_told) f cdv A outer s H E) (defBody s_clerk_told) (t_clerk_told K C CR E) := by
  have hx : Passes (L2.CX P w) (cxOf (L2.CX P w) P w K mg base N_clerk_told "clerk_told" (defScope s_clerk_told) f cdv A outer s H E) E := passes_call (takes_of rfl rfl rfl rfl) (fun _ _ _ _ h => h)
  exact (pss_cons (ps_expr (pe_calX (cal_ask_k T) hr (by decide) (by rfl) hx (pa_cons (pv 0) (pa_cons (pv 1) (pa_cons pe_int pa_nil)))))
    (pss_cons (ps_if (pt_val (pe_cal (cal_is_below T) hr (by decide) (by rfl) (pa_cons (pe_fld (pv 0) rfl) (pa_cons (pv 1) pa_nil)))) (pss_one (ps_ret (pe_lst (pa_cons pe_int pa_nil)))) pss_nil)
    (pss_cons (ps_set (i := 2) sc_clerk_told.nd rfl (Or.inl rfl) (pe_cal (cal_clerk T) hr (by decide) (by rfl) (pa_cons (pe_fld (pv 0) rfl) (pa_cons (pv 1) pa_nil))))
    (pss_cons (ps_if (pt_cmpR (op_eqD hr.units) (pv 2) (pe_lst pa_nil) (nomark _)) (pss_one (ps_ret (pe_lst (pa_cons pe_int pa_nil)))) pss_nil)
    (pss_one (ps_ret (pe_op op_cat (pe_lst (pa_cons pe_int pa_nil)) (pv 2))))))))
theorem run_clerk_told {K : PySem.W.Frag} {mg : Str → Option Value} {C CR : Addr} (T : Tx K mg C CR) (c : Cc) (E : XK) (m : Dk) (ds : List PyData) (r : Res) (hc : c.C = C) (hm : c.mu = true) (h : R_clerk_told m ds r) (hE : ∀ z e H', r = .no z → Out c H' m → H' e = some (xdN z) → E (.ref CR) (some e) H') :
    Rn c (t_clerk_told K C CR E) (entryK N_clerk_told ds) m (fun _ m' => r = .ok .none m') (fun d m' => r = .ok d m') := by
  obtain ⟨k, rfl, hg, rfl⟩ := h
  have hll := hg.ll
  refine q_k hc hm rfl (a_cons (e_var rfl) (a_cons e_int a_nil)) (fun h1 h2 => ?_) (fun z hz e H' o he => hE z e H' (kF_no hz rfl) o he)
  have ek : (k.toNat : Int) = k := by omega
  have fin : ∀ l, clerkL m.lines k.toNat = l → clerkF m k = .ok (dI l) m := fun l e => by unfold clerkF; rw [if_pos h1, if_pos h2, e]
  refine r_seq (r_if (b_B (e_call (a_cons (e_lines T hc rfl) (a_cons (e_var rfl) a_nil)) ⟨m.lines, k.toNat, by rw [ek] <;> rfl, by omega, rfl⟩)) (fun hb => ?_) (fun hb => ?_))
  · exact r_ret (n_lst (a_cons e_int a_nil) (by decide)).s (fin [2] (if_pos hb))
  · refine r_next ?_
    have hb' : ¬ Vbcead.clean k.toNat m.lines = true := by rw [hb]; decide
    refine r_seq (r_asg (e_call (a_cons (e_lines T hc rfl) (a_cons (e_var rfl) a_nil)) ⟨m.lines, k.toNat, by rw [ek] <;> rfl, by omega, by omega, by omega, rfl⟩) ?_)
    have hcl := clerkM_len k.toNat m.lines
    refine r_seq (r_if (b_test (e_eqL (k := []) (e_var rfl) (n_lst a_nil (by decide)).s)) (fun hn => ?_) (fun hn => ?_))
    · refine r_ret (n_lst (a_cons e_int a_nil) (by decide)).s (fin [0] ?_)
      unfold clerkL
      rw [if_neg hb', if_pos (of_decide_eq_true hn)]
    · refine r_next (r_ret (n_cat (n_lst (a_cons e_int a_nil) (by decide)).q (e_var rfl).q (by rw [List.length_map]; show 1 + _ ≤ _; omega)).s (fin (1 :: clerkM k.toNat m.lines) ?_))
      unfold clerkL
      rw [if_neg hb', if_neg (of_decide_eq_false hn)]
theorem cal_clerk_told {P : Program} {w : World} {K : PySem.W.Frag} {mg : Str → Option Value} {base : Heap} {C CR : Addr} (T : Tx K mg C CR) : CalX P w K mg base (L2.CX P w) 6 "clerk_told" (spK C CR R_clerk_told) :=
  cal_ofX T.d_clerk_told sc_clerk_told bi_clerk_told (spK_len len_clerk_told) (d_clerk_told T) (pureK_of (run_clerk_told T))

/-! #### mend -/
/-- for x, (y, z) in xs -/
theorem r_forT {c : Cc} {τ : List SD} {m : Dk} {nx : List SD → Dk → Prop} {rt : PyData → Dk → Prop} {tl : TE} {tb : TS} {K : PySem.W.Frag} {j k n : Nat} {α : Type} {l : List α} {p1 p2 p3 : α → PyData} (h : EvS c tl τ m (.list (l.map fun x => .tuple [p1 x, .tuple [p2 x, p3 x]]))) (S : Nat → List SD) (M : Nat → Dk) (G : Nat → Prop) (h0 : WkL τ (S 0)) (hM : m = M 0) (g0 : G 0)
    (hs : ∀ (B : Hp) (i : Nat) (x : α), l[i]? = some x → G i → Rn (c.on B) tb ((((S i).set j (.val (p1 x))).set k (.val (p2 x))).set n (.val (p3 x))) (M i) (fun τ' m' => WkL τ' (S (i + 1)) ∧ m' = M (i + 1) ∧ G (i + 1)) rt)
    (hd : G l.length → nx (S l.length) (M l.length)) : Rn c (tFor (iList K tl) (gTup K 2 (gCons (gName j) (gCons (gTup K 2 (gCons (gName k) (gCons (gName n) gNil))) gNil))) tb) τ m nx rt := fun L D σ H I hx hr => h L H σ I _ fun v H1 e1 k1 => by
  obtain ⟨p, xs, rfl, k1, x1⟩ := k1
  have len := dmA_length x1
  rw [List.length_map] at len
  subst hM
  refine ⟨p, rfl, ⟨xs, .inl (.inl (hid_ex _ _ k1))⟩, ?_⟩
  refine loop_gen (walk_list (K := K) (a := p) (xs := xs)) S (fun i => match l[i]? with | some x => (((S i).set j (.val (p1 x))).set k (.val (p2 x))).set n (.val (p3 x)) | none => []) M G ((I.mono e1).wk h0) g0 (fun H' L' ex => .inl (.inl (hid_ex _ _ (ex _ _ k1)))) (fun i x L' σ' H' H'' hi J' ex y P q => ?_) (fun B i _ hi gi => ?_) hx hr (by rw [len]; exact hd)
  · obtain ⟨rfl, hx⟩ := y
    have hl : i < l.length := by omega
    have hd := dmA_at x1 hx
    rw [List.getD_eq_getElem?_getD, List.getElem?_map, List.getElem?_eq_getElem hl] at hd
    obtain ⟨a, zs, rfl, ha, u, r, rfl, hu, w, r', rfl, hw, hr'⟩ := dm_mono ex _ _ hd
    obtain rfl : r' = [] := hr'
    obtain ⟨a2, zs2, rfl, ha2, u2, r2, rfl, hu2, w2, r2', rfl, hw2, hr2'⟩ := hw
    obtain rfl : r2' = [] := hr2'
    rw [List.getElem?_eq_getElem hl] at q
    exact ⟨a, _, rfl, .inl (.inl (hid_ex _ _ ha)), rfl, _, _, rfl, _, _, rfl, ⟨a2, _, rfl, .inl (.inl (hid_ex _ _ ha2)), rfl, _, _, rfl, _, _, rfl, rfl, rfl, q _ _ (((J'.setV hu).setV hu2).setV hw2)⟩⟩
  · have hl : i < l.length := by omega
    rw [List.getElem?_eq_getElem hl]
    exact hs B i _ (List.getElem?_eq_getElem hl) gi
theorem b_isN {c : Cc} {τ : List SD} {m : Dk} {ta : TE} {d : PyData} (h : EvS c ta τ m d) : EvB c (tTest (tOp (fun x y H Q => y = V.non ∧ Q (V.bl (decide (x = V.non))) H) ta (tC .non))) τ m (match d with | .none => true | _ => false) := fun L H σ I Q q => h L H σ I _ fun v H2 e h2 => by
  refine ⟨rfl, _, congrArg V.bl ?_, q H2 e⟩
  cases d with
  | none => obtain rfl : v = _ := h2; rfl
  | bool b => obtain rfl : v = _ := h2; rfl
  | int b => obtain rfl : v = _ := h2; rfl
  | str b => obtain rfl : v = _ := h2; rfl
  | list l => obtain ⟨a, xs, rfl, _⟩ := h2; rfl
  | tuple l => obtain ⟨a, xs, rfl, _⟩ := h2; rfl
  | dict l => exact h2.elim
def mendRow (xs : List (Nat × Rat)) : List Int := xs.flatMap fun p => [(p.1 : Int), p.2.num, (p.2.den : Int)]
def mendL : Option (List (Nat × Rat)) → List Int
  | none => [0]
  | some xs => 1 :: (xs.length : Int) :: mendRow xs
def mendF (m : Dk) (k : Int) : Res := if 1 ≤ k ∧ k ≤ 7 then (if k + 0 ≤ (m.lines.length : Int) then .ok (dI (mendL (mendM m.lines k.toNat))) m else .no (-5)) else .no (-1)
def R_mend (m : Dk) (ds : List PyData) (r : Res) : Prop := ∃ k : Int, ds = [.int k] ∧ Good m ∧ r = mendF m k
theorem len_mend : ∀ m ds r, R_mend m ds r → ds.length + 1 = 2 := fun _ _ _ ⟨_, h, _⟩ => by rw [h] <;> rfl
theorem mendM_len {l : List Int} {k : Nat} {xs : List (Nat × Rat)} (h : mendM l k = some xs) : xs.length ≤ 4 := by
  unfold mendM at h
  obtain ⟨s, hs, e⟩ := List.exists_of_findSome?_eq_some h
  have hs := List.mem_range.mp hs
  unfold tryM at e
  split at e
  · rename_i hc
    obtain rfl := Option.some.inj e
    rw [List.length_map, hc.1]
    unfold bornM at hs
    omega
  · cases e
theorem mendRow_len (xs : List (Nat × Rat)) : (mendRow xs).length = 3 * xs.length := by
  unfold mendRow
  induction xs with
  | nil => rfl
  | cons a xs ih =>
    rw [List.flatMap_cons, List.length_append, ih]
    show 3 + _ = 3 * (xs.length + 1)
    omega
theorem mendRow_take {xs : List (Nat × Rat)} {i : Nat} {p : Nat × Rat} (h : xs[i]? = some p) : mendRow (xs.take (i + 1)) = mendRow (xs.take i) ++ [(p.1 : Int), p.2.num, (p.2.den : Int)] := by
  unfold mendRow
  rw [take_more h, List.flatMap_append]
  show _ ++ ([_, _, _] ++ []) = _
  rw [List.append_nil]
abbrev s_mend : Stmt := top 68
abbrev N_mend : List Str := ["desk", "k", "some", "found", "line", "top", "bottom"]
theorem sc_mend : FnScope N_mend ["desk", "k"] (defScope s_mend) := C8.fnScope_by (by decide +kernel)
theorem bi_mend : BindsAt "mend" s_mend ["desk", "k"] := fun _ _ _ _ _ _ us hl => match us, hl with | [_, _], _ => rfl
def t_mend (K : PySem.W.Frag) (C CR : Addr) (E : XK) : TS :=
  (tSeq (tDrop (tCall (spK C CR R_ask_k) [] E (tCons (tVar 0) (tCons (tVar 1) (tCons (tC (.int 0)) tNil)))))
    (tSeq (tAsg (tCall (spD R_mended) [] E0 (tCons (tFld K (tVar 0) "lines") (tCons (tVar 1) tNil))) (gName 2))
    (tSeq (tIfS (tTest (tOp (fun x y H Q => y = V.non ∧ Q (V.bl (decide (x = V.non))) H) (tVar 2) (tC .non))) (tRet (tLst (tCons (tC (.int 0)) tNil))) tNext)
    (tSeq (tAsg (tLst (tCons (tC (.int 1)) (tCons (tCB (rLenS K) (tCons (tVar 2) tNil)) tNil))) (gName 3))
    (tSeq (tFor (iList K (tVar 2)) (gTup K 2 (gCons (gName 4) (gCons (gTup K 2 (gCons (gName 5) (gCons (gName 6) gNil))) gNil))) (tDrop (tBM K "list" rExtend (tVar 3) (tCons (tLst (tCons (tVar 4) (tCons (tVar 5) (tCons (tVar 6) tNil)))) tNil))))
    (tRet (tVar 3)))))))
theorem d_mend {P : Program} {w : World} {K : PySem.W.Frag} {mg : Str → Option Value} {base : Heap} {C CR : Addr} (T : Tx K mg C CR) (f : Addr) (cdv : Value) (A : Around) (outer : List Env) (s : Shared) (H : Hp) (E : XK) (hr : Room 5 (A.deeper (envOfC "mend" (defScope s_mend) s.heap.objs.size f cdv))) :
    PSs (cxOf (L2.CX P w) P w K mg base N_mend "mend" (defScope s_mend) f cdv A outer s H E) (defBody s_mend) (t_mend K C CR E) := by
  have hx : Passes (L2.CX P w) (cxOf (L2.CX P w) P w K mg base N_mend "mend" (defScope s_mend) f cdv A outer s H E) E := passes_call (takes_of rfl rfl rfl rfl) (fun _ _ _ _ h => h)
  exact (pss_cons (ps_expr (pe_calX (cal_ask_k T) hr (by decide) (by rfl) hx (pa_cons (pv 0) (pa_cons (pv 1) (pa_cons pe_int pa_nil)))))
    (pss_cons (ps_set (i := 2) sc_mend.nd rfl (Or.inl rfl) (pe_cal (cal_mended T) hr (by decide) (by rfl) (pa_cons (pe_fld (pv 0) rfl) (pa_cons (pv 1) pa_nil))))
    (pss_cons (ps_if (pt_cmpR op_isN (pv 2) pe_non (nomark _)) (pss_one (ps_ret (pe_lst (pa_cons pe_int pa_nil)))) pss_nil)
    (pss_cons (ps_set (i := 3) sc_mend.nd rfl (Or.inl rfl) (pe_lst (pa_cons pe_int (pa_cons (pe_callB call_len_seq (by rfl) T.b_len PySem.boot_len (pa_cons (pv 2) pa_nil)) pa_nil))))
    (pss_cons (ps_for (passes_of rfl) rfl (pi_list (pv 2)) (pg_tup rfl (pgs_cons (pg_name (i := 4) sc_mend.nd rfl (Or.inl rfl)) (pgs_cons (pg_tup rfl (pgs_cons (pg_name (i := 5) sc_mend.nd rfl (Or.inl rfl)) (pgs_cons (pg_name (i := 6) sc_mend.nd rfl (Or.inl rfl)) pgs_nil))) pgs_nil))) (pss_one (ps_expr (pe_bm PySem.F.plainAttrs_list PySem.F.slot_list_extend PySem.F.type_list_extend mt_extend (pv 3) (pa_cons (pe_lst (pa_cons (pv 4) (pa_cons (pv 5) (pa_cons (pv 6) pa_nil)))) pa_nil)))))
    (pss_one (ps_ret (pv 3))))))))
theorem run_mend {K : PySem.W.Frag} {mg : Str → Option Value} {C CR : Addr} (T : Tx K mg C CR) (c : Cc) (E : XK) (m : Dk) (ds : List PyData) (r : Res) (hc : c.C = C) (hm : c.mu = true) (h : R_mend m ds r) (hE : ∀ z e H', r = .no z → Out c H' m → H' e = some (xdN z) → E (.ref CR) (some e) H') :
    Rn c (t_mend K C CR E) (entryK N_mend ds) m (fun _ m' => r = .ok .none m') (fun d m' => r = .ok d m') := by
  obtain ⟨k, rfl, hg, rfl⟩ := h
  have hll := hg.ll
  refine q_k hc hm rfl (a_cons (e_var rfl) (a_cons e_int a_nil)) (fun h1 h2 => ?_) (fun z hz e H' o he => hE z e H' (kF_no hz rfl) o he)
  have ek : (k.toNat : Int) = k := by omega
  have fin : ∀ l, mendL (mendM m.lines k.toNat) = l → mendF m k = .ok (dI l) m := fun l e => by unfold mendF; rw [if_pos h1, if_pos h2, e]
  refine r_seq (r_asg (e_call (a_cons (e_lines T hc rfl) (a_cons (e_var rfl) a_nil)) ⟨m.lines, k.toNat, by rw [ek] <;> rfl, by omega, by omega, by omega, hll, hg.lb, rfl⟩) ?_)
  cases hm' : mendM m.lines k.toNat with
  | none =>
    rw [hm'] at fin
    refine r_seq (r_if (b_isN (e_var rfl)) (fun _ => ?_) (fun z => by cases z))
    exact r_ret (n_lst (a_cons e_int a_nil) (by decide)).s (fin [0] rfl)
  | some xs =>
    rw [hm'] at fin
    have hxl := mendM_len hm'
    refine r_seq (r_if (b_isN (e_var rfl)) (fun z => by cases z) (fun _ => r_next ?_))
    refine r_seq (r_asgN (n_lst (a_cons e_int (a_cons (e_len (EvS.q (ds := xs.map fun p => .tuple [.int (p.1 : Int), fr p.2]) (e_var rfl))) a_nil)) (by show 2 ≤ _; decide)) ?_)
    refine r_seq (r_forT (l := xs) (p1 := fun p => .int (p.1 : Int)) (p2 := fun p => .int p.2.num) (p3 := fun p => .int (p.2.den : Int)) (e_var rfl) (fun i => [.desk, .no, .no, .own (nI (1 :: (xs.length : Int) :: mendRow (xs.take i))), .no, .no, .no]) (fun _ => m) (fun _ => True)
      ⟨.inr rfl, .inl rfl, .inl rfl, .inr ?_, .inl rfl, .inl rfl, .inl rfl, trivial⟩ rfl trivial (fun B i p hi _ => ?_) (fun _ => ?_))
    · rw [List.length_map] <;> rfl
    · have hrl := mendRow_len (xs.take i)
      rw [List.length_take] at hrl
      refine r_ext rfl (n_lst (a_cons (e_var rfl) (a_cons (e_var rfl) (a_cons (e_var rfl) a_nil))) (by show 3 ≤ _; decide)).s (by rw [List.length_map, List.length_cons, List.length_cons, hrl]; show _ + 3 ≤ _; omega) ⟨⟨.inr rfl, .inl rfl, .inl rfl, .inr ?_, .inl rfl, .inl rfl, .inl rfl, trivial⟩, rfl, trivial⟩
      rw [mendRow_take hi]
      exact congrArg SD.own (nI_append (1 :: (xs.length : Int) :: mendRow (xs.take i)) [(p.1 : Int), p.2.num, (p.2.den : Int)])
    · refine r_retO rfl (fin _ ?_)
      rw [List.take_length] <;> rfl
theorem cal_mend {P : Program} {w : World} {K : PySem.W.Frag} {mg : Str → Option Value} {base : Heap} {C CR : Addr} (T : Tx K mg C CR) : CalX P w K mg base (L2.CX P w) 6 "mend" (spK C CR R_mend) :=
  cal_ofX T.d_mend sc_mend bi_mend (spK_len len_mend) (d_mend T) (pureK_of (run_mend T))

/-! #### bears -/
def bearsF (m : Dk) (k : Int) : Res := if 1 ≤ k ∧ k ≤ 7 then (if k + 0 ≤ (m.lines.length : Int) then .ok (dI [(m.lines.length : Int) - k + 1, ((m.lines.length : Int) - k) / 2, ((bornM m.lines.length k.toNat : Nat) : Int)]) m else .no (-5)) else .no (-1)
def R_bears (m : Dk) (ds : List PyData) (r : Res) : Prop := ∃ k : Int, ds = [.int k] ∧ Good m ∧ r = bearsF m k
theorem len_bears : ∀ m ds r, R_bears m ds r → ds.length + 1 = 2 := fun _ _ _ ⟨_, h, _⟩ => by rw [h] <;> rfl
abbrev s_bears : Stmt := top 69
abbrev N_bears : List Str := ["desk", "k", "many"]
theorem sc_bears : FnScope N_bears ["desk", "k"] (defScope s_bears) := C8.fnScope_by (by decide +kernel)
theorem bi_bears : BindsAt "bears" s_bears ["desk", "k"] := fun _ _ _ _ _ _ us hl => match us, hl with | [_, _], _ => rfl
def t_bears (K : PySem.W.Frag) (C CR : Addr) (E : XK) : TS :=
  (tSeq (tDrop (tCall (spK C CR R_ask_k) [] E (tCons (tVar 0) (tCons (tVar 1) (tCons (tC (.int 0)) tNil)))))
    (tSeq (tAsg (tCB (rLenS K) (tCons (tFld K (tVar 0) "lines") tNil)) (gName 2))
    (tRet (tLst (tCons (tOp (rI0 fun i j => .int (i + j)) (tOp (rI0 fun i j => .int (i - j)) (tVar 2) (tVar 1)) (tC (.int 1))) (tCons (tOp (rI CDiv fun i j => .int (i / j)) (tOp (rI0 fun i j => .int (i - j)) (tVar 2) (tVar 1)) (tC (.int 2))) (tCons (tCall (spD R_borne) [] E0 (tCons (tVar 2) (tCons (tVar 1) tNil))) tNil)))))))
theorem d_bears {P : Program} {w : World} {K : PySem.W.Frag} {mg : Str → Option Value} {base : Heap} {C CR : Addr} (T : Tx K mg C CR) (f : Addr) (cdv : Value) (A : Around) (outer : List Env) (s : Shared) (H : Hp) (E : XK) (hr : Room 5 (A.deeper (envOfC "bears" (defScope s_bears) s.heap.objs.size f cdv))) :
    PSs (cxOf (L2.CX P w) P w K mg base N_bears "bears" (defScope s_bears) f cdv A outer s H E) (defBody s_bears) (t_bears K C CR E) := by
  have hx : Passes (L2.CX P w) (cxOf (L2.CX P w) P w K mg base N_bears "bears" (defScope s_bears) f cdv A outer s H E) E := passes_call (takes_of rfl rfl rfl rfl) (fun _ _ _ _ h => h)
  exact (pss_cons (ps_expr (pe_calX (cal_ask_k T) hr (by decide) (by rfl) hx (pa_cons (pv 0) (pa_cons (pv 1) (pa_cons pe_int pa_nil)))))
    (pss_cons (ps_set (i := 2) sc_bears.nd rfl (Or.inl rfl) (pe_callB call_len_seq (by rfl) T.b_len PySem.boot_len (pa_cons (pe_fld (pv 0) rfl) pa_nil)))
    (pss_one (ps_ret (pe_lst (pa_cons (pe_op op_add (pe_op op_sub (pv 2) (pv 1)) pe_int) (pa_cons (pe_op op_fdiv (pe_op op_sub (pv 2) (pv 1)) pe_int) (pa_cons (pe_cal (cal_borne T) hr (by decide) (by rfl) (pa_cons (pv 2) (pa_cons (pv 1) pa_nil))) pa_nil))))))))
theorem run_bears {K : PySem.W.Frag} {mg : Str → Option Value} {C CR : Addr} (T : Tx K mg C CR) (c : Cc) (E : XK) (m : Dk) (ds : List PyData) (r : Res) (hc : c.C = C) (hm : c.mu = true) (h : R_bears m ds r) (hE : ∀ z e H', r = .no z → Out c H' m → H' e = some (xdN z) → E (.ref CR) (some e) H') :
    Rn c (t_bears K C CR E) (entryK N_bears ds) m (fun _ m' => r = .ok .none m') (fun d m' => r = .ok d m') := by
  obtain ⟨k, rfl, hg, rfl⟩ := h
  have hll := hg.ll
  refine q_k hc hm rfl (a_cons (e_var rfl) (a_cons e_int a_nil)) (fun h1 h2 => ?_) (fun z hz e H' o he => hE z e H' (kF_no hz rfl) o he)
  have ek : (k.toNat : Int) = k := by omega
  refine r_seq (r_asg (e_lenI (e_lines T hc rfl).q) ?_)
  refine r_ret (n_lst (a_cons (e_I0 (e_I0 (e_var rfl) (e_var rfl)) e_int) (a_cons (e_I (e_I0 (e_var rfl) (e_var rfl)) e_int ⟨by decide, by decide⟩) (a_cons (e_call (a_cons (e_var rfl) (a_cons (e_var rfl) a_nil)) ⟨m.lines.length, k.toNat, by rw [ek] <;> rfl, by omega, rfl⟩) a_nil))) (by show 3 ≤ _; decide)).s ?_
  unfold bearsF
  rw [if_pos h1, if_pos h2] <;> rfl
theorem cal_bears {P : Program} {w : World} {K : PySem.W.Frag} {mg : Str → Option Value} {base : Heap} {C CR : Addr} (T : Tx K mg C CR) : CalX P w K mg base (L2.CX P w) 6 "bears" (spK C CR R_bears) :=
  cal_ofX T.d_bears sc_bears bi_bears (spK_len len_bears) (d_bears T) (pureK_of (run_bears T))

/-! #### are_lines -/
def linesOk (n : Nat) (l : List Int) : Bool := decide (l.filter (fun i => decide (i < 0) || decide ((n : Int) ≤ i)) = []) && decide ((l.dropLast.zip l.tail).filter (fun p => decide (p.2 ≤ p.1)) = [])
def R_are_lines (m : Dk) (ds : List PyData) (d : PyData) : Prop := ∃ l : List Int, ds = [dI l] ∧ l.length ≤ 1000 ∧ d = .bool (linesOk m.lines.length l)
theorem len_are_lines : ∀ m ds r, R_are_lines m ds r → ds.length + 1 = 2 := fun _ _ _ ⟨_, h, _⟩ => by rw [h] <;> rfl
abbrev s_are_lines : Stmt := top 70
abbrev N_are_lines : List Str := ["desk", "some", "i", "one", "other"]
theorem sc_are_lines : FnScope N_are_lines ["desk", "some"] (defScope s_are_lines) := C8.fnScope_by (by decide +kernel)
theorem bi_are_lines : BindsAt "are_lines" s_are_lines ["desk", "some"] := fun _ _ _ _ _ _ us hl => match us, hl with | [_, _], _ => rfl
def t_are_lines (K : PySem.W.Frag) (C CR : Addr) : TS :=
  (tSeq (tIfS (tTest (tOp (rNeD K) (tLc (iList K (tVar 1)) (gName 2) (tOr (tTest (tOp (rI0 fun i j => .bl (decide (i < j))) (tVar 2) (tC (.int 0)))) (tTest (tOp (rI0 fun i j => .bl (decide (j ≤ i))) (tVar 2) (tCB (rLenS K) (tCons (tFld K (tVar 0) "lines") tNil))))) (tVar 2) [2]) (tLst tNil))) (tRet (tC (.bl false))) tNext)
    (tRet (tOp (rEqD K) (tLc (iZip K (tCons (tSl (rSlL K) (tVar 1) tNoPart (tPart (tUn (rU fun i => .int (-i)) (tC (.int 1))))) (tCons (tSl (rSlL K) (tVar 1) (tPart (tC (.int 1))) tNoPart) tNil))) (gTup K 2 (gCons (gName 3) (gCons (gName 4) gNil))) (tTest (tOp (rI0 fun i j => .bl (decide (j ≤ i))) (tVar 3) (tVar 4))) (tC (.int 1)) [3, 4]) (tLst tNil))))
theorem d_are_lines {P : Program} {w : World} {K : PySem.W.Frag} {mg : Str → Option Value} {base : Heap} {C CR : Addr} (T : Tx K mg C CR) (f : Addr) (cdv : Value) (A : Around) (outer : List Env) (s : Shared) (H : Hp) (E : XK) (hr : Room 0 (A.deeper (envOfC "are_lines" (defScope s_are_lines) s.heap.objs.size f cdv))) :
    PSs (cxOf CX0 P w K mg base N_are_lines "are_lines" (defScope s_are_lines) f cdv A outer s H E).nox (defBody s_are_lines) (t_are_lines K C CR) :=
  (pss_cons (ps_if (pt_cmpR (op_neD hr.units) (pe_lc (own := [("i", 2)]) rfl sc_are_lines.nd (pi_list (pv 1)) (blkOk_by (own := [("i", 2)]) (N := N_are_lines) (sc := defScope s_are_lines) (by decide +kernel)) (fun _ _ _ _ _ => (pg_name (i := 2) sc_are_lines.nd rfl (Or.inl rfl))) (fun _ _ _ _ _ => (pts_one (PW.pt (pw_or (pt_cmpR op_lt (pv 2) pe_int (nomark _)) (pw_or1 (pt_cmpR op_ge (pv 2) (pe_callB call_len_seq (by rfl) T.b_len PySem.boot_len (pa_cons (pe_fld (pv 0) rfl) pa_nil)) (nomark _))))))) (fun _ _ _ _ _ => (pv 2))) (pe_lst pa_nil) (nomark _)) (pss_one (ps_ret pe_bl)) pss_nil)
    (pss_one (ps_ret (pe_cmpR (op_eqD hr.units) (pe_lc (own := [("one", 3), ("other", 4)]) rfl sc_are_lines.nd (pi_zip (by rfl) T.b_zip (pa_cons (pe_slice sl_list (pv 1) po_none (po_some (pe_un un_neg pe_int))) (pa_cons (pe_slice sl_list (pv 1) (po_some pe_int) po_none) pa_nil))) (blkOk_by (own := [("one", 3), ("other", 4)]) (N := N_are_lines) (sc := defScope s_are_lines) (by decide +kernel)) (fun _ _ _ _ _ => (pg_tup rfl (pgs_cons (pg_name (i := 3) sc_are_lines.nd rfl (Or.inl rfl)) (pgs_cons (pg_name (i := 4) sc_are_lines.nd rfl (Or.inl rfl)) pgs_nil)))) (fun _ _ _ _ _ => (pts_one (pt_cmpR op_ge (pv 3) (pv 4) (nomark _)))) (fun _ _ _ _ _ => pe_int)) (pe_lst pa_nil) (nomark _)))))
theorem run_are_lines {K : PySem.W.Frag} {mg : Str → Option Value} {C CR : Addr} (T : Tx K mg C CR) (c : Cc) (m : Dk) (ds : List PyData) (d : PyData) (hc : c.C = C) (h : R_are_lines m ds d) :
    Rn c (t_are_lines K C CR) (entryK N_are_lines ds) m (fun _ _ => d = .none) (fun d' _ => d' = d) := by
  obtain ⟨l, rfl, hl, rfl⟩ := h
  refine r_seq (r_if (b_test (e_neL (k := []) (l := l.filter (fun i => decide (i < 0) || decide ((m.lines.length : Int) ≤ i))) ((n_lcLI (f := fun i => decide (i < 0) || decide ((m.lines.length : Int) ≤ i)) (v := PyData.int) (e_var rfl).q (by omega) (by decide) (fun i _ => b_or (b_test (e_C0 (e_var rfl) e_int)) fun _ => b_test (e_C0 (g := fun i j => decide (j ≤ i)) (e_var rfl) (e_lenI (e_lines T hc rfl).q))) (fun i _ _ => e_var rfl)).s) (n_lst a_nil (by decide)).s)) (fun hb => ?_) (fun hb => ?_))
  · refine r_ret e_bl ?_
    unfold linesOk
    have : decide (l.filter (fun i => decide (i < 0) || decide ((m.lines.length : Int) ≤ i)) = []) = false := by simpa using hb
    rw [this] <;> rfl
  · have h1 : decide (l.filter (fun i => decide (i < 0) || decide ((m.lines.length : Int) ≤ i)) = []) = true := by simpa using hb
    refine r_next (r_ret (e_eqL (k := []) (l := ((l.dropLast.zip l.tail).filter fun p => decide (p.2 ≤ p.1)).map fun _ => (1 : Int)) (((n_lcZI (f := fun a b => decide (b ≤ a)) (v := fun _ _ => .int 1) ((n_sliceI (e_var rfl).q o_none (o_some (e_neg e_int))).q.is (by rw [cutI_init])) ((n_sliceI (e_var rfl).q (o_some e_int) o_none).q.is (by rw [cutI_tail])) (by rw [List.length_dropLast]; omega) (by decide) (by decide) (fun p _ => b_test (e_C0 (g := fun i j => decide (j ≤ i)) (e_var rfl) (e_var rfl))) (fun p _ _ => e_int)).s).is ?_) (n_lst a_nil (by decide)).s) ?_)
    · show PyData.list _ = PyData.list (List.map PyData.int (List.map _ _))
      rw [List.map_map] <;> rfl
    · unfold linesOk
      rw [h1, Bool.true_and]
      congr 1
      rw [Bool.eq_iff_iff, decide_eq_true_eq, decide_eq_true_eq, List.map_eq_nil_iff]
theorem cal_are_lines {P : Program} {w : World} {K : PySem.W.Frag} {mg : Str → Option Value} {base : Heap} {C CR : Addr} (T : Tx K mg C CR) : CalX P w K mg base CX0 1 "are_lines" (spR C R_are_lines) :=
  cal_of T.d_are_lines sc_are_lines bi_are_lines (spR_len len_are_lines) (d_are_lines T) (pureR_of (run_are_lines T))

/-! #### rival -/
def rivalL (n : Nat) (l : List Int) : List Int := (List.range n).map fun (x : Nat) => prodM (x : Int) l
def rivalF (m : Dk) (l : List Int) : Res := if l.length ≤ 6 ∧ linesOk m.lines.length l = true then .ok (dI (toldM (rivalL m.lines.length l))) m else .no (-1)
def R_rival (m : Dk) (ds : List PyData) (r : Res) : Prop := ∃ l : List Int, ds = [dI l] ∧ l.length ≤ 1000 ∧ Good m ∧ r = rivalF m l
theorem len_rival : ∀ m ds r, R_rival m ds r → ds.length + 1 = 2 := fun _ _ _ ⟨_, h, _⟩ => by rw [h] <;> rfl
theorem linesOk_in {n : Nat} {l : List Int} (h : linesOk n l = true) : ∀ i ∈ l, 0 ≤ i ∧ i < (n : Int) := fun i hi => by
  unfold linesOk at h
  rw [Bool.and_eq_true, decide_eq_true_eq] at h
  have := List.filter_eq_nil_iff.mp h.1 i hi
  rw [Bool.or_eq_true, decide_eq_true_eq, decide_eq_true_eq] at this
  omega
abbrev s_rival : Stmt := top 71
abbrev N_rival : List Str := ["desk", "some", "x"]
theorem sc_rival : FnScope N_rival ["desk", "some"] (defScope s_rival) := C8.fnScope_by (by decide +kernel)
theorem bi_rival : BindsAt "rival" s_rival ["desk", "some"] := fun _ _ _ _ _ _ us hl => match us, hl with | [_, _], _ => rfl
def t_rival (K : PySem.W.Frag) (C CR : Addr) (E : XK) : TS :=
  (tSeq (tDrop (tCall (spE CR R_ask) [] E (tCons (tAndV (tOp (rI0 fun i j => .bl (decide (i ≤ j))) (tCB (rLenS K) (tCons (tVar 1) tNil)) (tC (.int 6))) (tCall (spR C R_are_lines) [] E0 (tCons (tVar 0) (tCons (tVar 1) tNil)))) (tCons (tUn (rU fun i => .int (-i)) (tC (.int 1))) tNil))))
    (tRet (tCall (spD R_told) [] E0 (tCons (tLc (iRng1 (tCons (tCB (rLenS K) (tCons (tFld K (tVar 0) "lines") tNil)) tNil)) (gName 2) tYes (tCall (spD R_product_at) [] E0 (tCons (tVar 2) (tCons (tVar 1) tNil))) [2]) tNil))))
theorem d_rival {P : Program} {w : World} {K : PySem.W.Frag} {mg : Str → Option Value} {base : Heap} {C CR : Addr} (T : Tx K mg C CR) (f : Addr) (cdv : Value) (A : Around) (outer : List Env) (s : Shared) (H : Hp) (E : XK) (hr : Room 3 (A.deeper (envOfC "rival" (defScope s_rival) s.heap.objs.size f cdv))) :
    PSs (cxOf (L2.CX P w) P w K mg base N_rival "rival" (defScope s_rival) f cdv A outer s H E) (defBody s_rival) (t_rival K C CR E) := by
  have hx : Passes (L2.CX P w) (cxOf (L2.CX P w) P w K mg base N_rival "rival" (defScope s_rival) f cdv A outer s H E) E := passes_call (takes_of rfl rfl rfl rfl) (fun _ _ _ _ h => h)
  exact (pss_cons (ps_expr (pe_calX (cal_ask T) hr (by decide) (by rfl) hx (pa_cons (pe_and (pe_cmpR op_le (pe_callB call_len_seq (by rfl) T.b_len PySem.boot_len (pa_cons (pv 1) pa_nil)) (pe_gI (by rfl) T.g_MOST_RIVAL) (nomark _)) (pe_one (pe_cal (cal_are_lines T) hr (by decide) (by rfl) (pa_cons (pv 0) (pa_cons (pv 1) pa_nil))))) (pa_cons (pe_un un_neg pe_int) pa_nil))))
    (pss_one (ps_ret (pe_cal (cal_told T) hr (by decide) (by rfl) (pa_cons (pe_lc (own := [("x", 2)]) rfl sc_rival.nd (pi_range1 (by rfl) T.b_range (pa_cons (pe_callB call_len_seq (by rfl) T.b_len PySem.boot_len (pa_cons (pe_fld (pv 0) rfl) pa_nil)) pa_nil)) (blkOk_by (own := [("x", 2)]) (N := N_rival) (sc := defScope s_rival) (by decide +kernel)) (fun _ _ _ _ _ => (pg_name (i := 2) sc_rival.nd rfl (Or.inl rfl))) (fun _ _ _ _ _ => pts_nil) (fun _ _ _ _ _ => (pe_cal (cal_product_at T) hr (by decide) (by rfl) (pa_cons (pv 2) (pa_cons (pv 1) pa_nil))))) pa_nil)))))
theorem run_rival {K : PySem.W.Frag} {mg : Str → Option Value} {C CR : Addr} (T : Tx K mg C CR) (c : Cc) (E : XK) (m : Dk) (ds : List PyData) (r : Res) (hc : c.C = C) (hm : c.mu = true) (h : R_rival m ds r) (hE : ∀ z e H', r = .no z → Out c H' m → H' e = some (xdN z) → E (.ref CR) (some e) H') :
    Rn c (t_rival K C CR E) (entryK N_rival ds) m (fun _ m' => r = .ok .none m') (fun d m' => r = .ok d m') := by
  obtain ⟨l, rfl, hl, hg, rfl⟩ := h
  have hll := hg.ll
  refine q_ask (a_cons (e_andV (e_C0 (e_lenI (e_var rfl).q) e_int) fun _ => e_callR hc rfl (a_cons (e_var rfl) a_nil) ⟨l, rfl, hl, rfl⟩) (a_cons (e_neg e_int) a_nil)) (fun hb => ?_) (fun hb e H' o he => hE _ e H' (if_neg ?_) o he)
  · rw [Bool.and_eq_true, decide_eq_true_eq] at hb
    have hin := linesOk_in hb.2
    refine r_ret (e_call (a_cons ((n_lcR0 (v := fun x => .int (prodM (x : Int) l)) (a_cons (e_lenI (e_lines T hc rfl).q) a_nil) (by omega) (by omega) (by decide) (fun x hx => e_call (a_cons (e_var rfl) (a_cons (e_var rfl) a_nil)) ⟨_, l, rfl, by omega, fun i hi => by have := hin i hi; omega, rfl⟩)).s.is (d' := dI (rivalL m.lines.length l)) ?_) a_nil) ⟨_, rfl, by unfold rivalL; rw [List.length_map, List.length_range]; omega, rfl⟩) (if_pos ⟨by omega, hb.2⟩)
    rw [Int.toNat_natCast]
    show PyData.list _ = PyData.list (List.map PyData.int (List.map _ _))
    rw [List.map_map] <;> rfl
  · rw [Bool.and_eq_false_iff, decide_eq_false_iff_not] at hb
    rintro ⟨q1, q2⟩
    rcases hb with h | h
    · omega
    · rw [q2] at h; cases h
theorem cal_rival {P : Program} {w : World} {K : PySem.W.Frag} {mg : Str → Option Value} {base : Heap} {C CR : Addr} (T : Tx K mg C CR) : CalX P w K mg base (L2.CX P w) 4 "rival" (spK C CR R_rival) :=
  cal_ofX T.d_rival sc_rival bi_rival (spK_len len_rival) (d_rival T) (pureK_of (run_rival T))

/-! #### halfway_told -/
def halfwayL (l : List Int) (k : Nat) : List Int := (((l.length - k + 2) / 2 : Nat) : Int) :: (l.length : Int) :: halfwayTo k l ((l.length - k + 2) / 2)
def halfwayF (m : Dk) (k : Int) : Res := if 1 ≤ k ∧ k ≤ 7 then (if k + 0 ≤ (m.lines.length : Int) then (if Vbcead.clean k.toNat m.lines = true then .ok (dI (halfwayL m.lines k.toNat)) m else .no (-7)) else .no (-5)) else .no (-1)
def R_halfway_told (m : Dk) (ds : List PyData) (r : Res) : Prop := ∃ k : Int, ds = [.int k] ∧ Good m ∧ r = halfwayF m k
theorem len_halfway_told : ∀ m ds r, R_halfway_told m ds r → ds.length + 1 = 2 := fun _ _ _ ⟨_, h, _⟩ => by rw [h] <;> rfl
abbrev s_halfway_told : Stmt := top 72
abbrev N_halfway_told : List Str := ["desk", "k", "many", "lines"]
theorem sc_halfway_told : FnScope N_halfway_told ["desk", "k"] (defScope s_halfway_told) := C8.fnScope_by (by decide +kernel)
theorem bi_halfway_told : BindsAt "halfway_told" s_halfway_told ["desk", "k"] := fun _ _ _ _ _ _ us hl => match us, hl with | [_, _], _ => rfl
def t_halfway_told (K : PySem.W.Frag) (C CR : Addr) (E : XK) : TS :=
  (tSeq (tDrop (tCall (spK C CR R_ask_k) [] E (tCons (tVar 0) (tCons (tVar 1) (tCons (tC (.int 0)) tNil)))))
    (tSeq (tDrop (tCall (spE CR R_ask) [] E (tCons (tCall (spD R_is_below) [] E0 (tCons (tFld K (tVar 0) "lines") (tCons (tVar 1) tNil))) (tCons (tUn (rU fun i => .int (-i)) (tC (.int 7))) tNil))))
    (tSeq (tAsg (tCall (spD R_halfway) [] E0 (tCons (tFld K (tVar 0) "lines") (tCons (tVar 1) tNil))) (gTup K 2 (gCons (gName 2) (gCons (gName 3) gNil))))
    (tRet (tOp rCat (tLst (tCons (tVar 2) (tCons (tCB (rLenS K) (tCons (tVar 3) tNil)) tNil))) (tVar 3))))))
theorem d_halfway_told {P : Program} {w : World} {K : PySem.W.Frag} {mg : Str → Option Value} {base : Heap} {C CR : Addr} (T : Tx K mg C CR) (f : Addr) (cdv : Value) (A : Around) (outer : List Env) (s : Shared) (H : Hp) (E : XK) (hr : Room 5 (A.deeper (envOfC "halfway_told" (defScope s_halfway_told) s.heap.objs.size f cdv))) :
    PSs (cxOf (L2.CX P w) P w K mg base N_halfway_told "halfway_told" (defScope s_halfway_told) f cdv A outer s H E) (defBody s_halfway_told) (t_halfway_told K C CR E) := by
  have hx : Passes (L2.CX P w) (cxOf (L2.CX P w) P w K mg base N_halfway_told "halfway_told" (defScope s_halfway_told) f cdv A outer s H E) E := passes_call (takes_of rfl rfl rfl rfl) (fun _ _ _ _ h => h)
  exact (pss_cons (ps_expr (pe_calX (cal_ask_k T) hr (by decide) (by rfl) hx (pa_cons (pv 0) (pa_cons (pv 1) (pa_cons pe_int pa_nil)))))
    (pss_cons (ps_expr (pe_calX (cal_ask T) hr (by decide) (by rfl) hx (pa_cons (pe_cal (cal_is_below T) hr (by decide) (by rfl) (pa_cons (pe_fld (pv 0) rfl) (pa_cons (pv 1) pa_nil))) (pa_cons (pe_un un_neg pe_int) pa_nil))))
    (pss_cons (ps_asg (pe_cal (cal_halfway T) hr (by decide) (by rfl) (pa_cons (pe_fld (pv 0) rfl) (pa_cons (pv 1) pa_nil))) (pg_tup rfl (pgs_cons (pg_name (i := 2) sc_halfway_told.nd rfl (Or.inl rfl)) (pgs_cons (pg_name (i := 3) sc_halfway_told.nd rfl (Or.inl rfl)) pgs_nil))))
    (pss_one (ps_ret (pe_op op_cat (pe_lst (pa_cons (pv 2) (pa_cons (pe_callB call_len_seq (by rfl) T.b_len PySem.boot_len (pa_cons (pv 3) pa_nil)) pa_nil))) (pv 3)))))))
theorem run_halfway_told {K : PySem.W.Frag} {mg : Str → Option Value} {C CR : Addr} (T : Tx K mg C CR) (c : Cc) (E : XK) (m : Dk) (ds : List PyData) (r : Res) (hc : c.C = C) (hm : c.mu = true) (h : R_halfway_told m ds r) (hE : ∀ z e H', r = .no z → Out c H' m → H' e = some (xdN z) → E (.ref CR) (some e) H') :
    Rn c (t_halfway_told K C CR E) (entryK N_halfway_told ds) m (fun _ m' => r = .ok .none m') (fun d m' => r = .ok d m') := by
  obtain ⟨k, rfl, hg, rfl⟩ := h
  have hll := hg.ll
  refine q_k hc hm rfl (a_cons (e_var rfl) (a_cons e_int a_nil)) (fun h1 h2 => ?_) (fun z hz e H' o he => hE z e H' (kF_no hz rfl) o he)
  have ek : (k.toNat : Int) = k := by omega
  refine q_ask (a_cons (e_call (a_cons (e_lines T hc rfl) (a_cons (e_var rfl) a_nil)) ⟨m.lines, k.toNat, by rw [ek] <;> rfl, by omega, rfl⟩) (a_cons (e_neg e_int) a_nil)) (fun hb => ?_) (fun hb e H' o he => hE _ e H' (by unfold halfwayF; rw [if_pos h1, if_pos h2, if_neg (by rw [hb]; decide)]) o he)
  refine r_seq (r_asg2 (e_call (a_cons (e_lines T hc rfl) (a_cons (e_var rfl) a_nil)) ⟨m.lines, k.toNat, by rw [ek] <;> rfl, by omega, by omega, by omega, rfl⟩) ?_)
  have hl := halfwayTo_len (k := k.toNat) (l := m.lines) (t := (m.lines.length - k.toNat + 2) / 2)
  refine r_ret (n_cat (n_lst (a_cons (e_var rfl) (a_cons (e_lenI (e_var rfl).q) a_nil)) (by show 2 ≤ _; decide)).q (e_var rfl).q (by rw [List.length_map]; show 2 + _ ≤ _; omega)).s ?_
  unfold halfwayF
  rw [if_pos h1, if_pos h2, if_pos hb, hl] <;> rfl
theorem cal_halfway_told {P : Program} {w : World} {K : PySem.W.Frag} {mg : Str → Option Value} {base : Heap} {C CR : Addr} (T : Tx K mg C CR) : CalX P w K mg base (L2.CX P w) 6 "halfway_told" (spK C CR R_halfway_told) :=
  cal_ofX T.d_halfway_told sc_halfway_told bi_halfway_told (spK_len len_halfway_told) (d_halfway_told T) (pureK_of (run_halfway_told T))

end CE
namespace CE
open PySem PySem.Spec PyProof.Rows L2
open Evl (Ex rLenS rListS sz_of sz_lt)

/-! #### explain -/
def explAt (size : Int) (cols lines : List Int) (lo : Int) (i : Nat) : Option (List Int) := (List.range (cols.length - 1)).findSome? fun (j : Nat) => if printedM size (lo + (i : Int)) (j : Int) cols lines.length = lines then some [1, lo + (i : Int), (j : Int)] else none
def explM (size : Int) (cols lines : List Int) : List Int :=
  if firstM (printedM size (-1) (-1) cols lines.length) lines < 0 then [2] else
    ((List.range (firstM (printedM size (-1) (-1) cols lines.length) lines - max 0 (firstM (printedM size (-1) (-1) cols lines.length) lines + 1 - (cols.length : Int))).toNat).findSome? (explAt size cols lines (max 0 (firstM (printedM size (-1) (-1) cols lines.length) lines + 1 - (cols.length : Int))))).getD [0]
def explF (m : Dk) (l : List Int) : Res := if StartOk l then .ok (dI (explM m.size (l.map fun z => z % m.size) m.lines)) m else .no (-1)
def R_explain (m : Dk) (ds : List PyData) (r : Res) : Prop := ∃ l : List Int, ds = [dI l] ∧ Good m ∧ r = explF m l
theorem len_explain : ∀ m ds r, R_explain m ds r → ds.length + 1 = 2 := fun _ _ _ ⟨_, h, _⟩ => by rw [h] <;> rfl
theorem firstM_lt (a b : List Int) : firstM a b < a.length ∨ firstM a b = -1 := by
  unfold firstM
  split
  · rename_i i h
    have := List.mem_range.mp (List.mem_of_find?_eq_some h)
    exact .inl (by omega)
  · exact .inr rfl
abbrev s_explain : Stmt := top 74
abbrev N_explain : List Str := ["desk", "some", "columns", "many", "place", "t", "j"]
theorem sc_explain : FnScope N_explain ["desk", "some"] (defScope s_explain) := C8.fnScope_by (by decide +kernel)
theorem bi_explain : BindsAt "explain" s_explain ["desk", "some"] := fun _ _ _ _ _ _ us hl => match us, hl with | [_, _], _ => rfl
def t_explain (K : PySem.W.Frag) (C CR : Addr) (E : XK) : TS :=
  (tSeq (tDrop (tCall (spE CR R_ask_start) [] E (tCons (tVar 1) tNil)))
    (tSeq (tAsg (tCall (spR C R_shown_all) [] E0 (tCons (tVar 0) (tCons (tVar 1) tNil))) (gName 2))
    (tSeq (tAsg (tCB (rLenS K) (tCons (tFld K (tVar 0) "lines") tNil)) (gName 3))
    (tSeq (tAsg (tCall (spD R_first_unlike) [] E0 (tCons (tCall (spD R_printed) [] E0 (tCons (tVar 2) (tCons (tFld K (tVar 0) "size") (tCons (tVar 3) (tCons (tUn (rU fun i => .int (-i)) (tC (.int 1))) (tCons (tUn (rU fun i => .int (-i)) (tC (.int 1))) tNil)))))) (tCons (tFld K (tVar 0) "lines") tNil))) (gName 4))
    (tSeq (tIfS (tTest (tOp (rI0 fun i j => .bl (decide (i < j))) (tVar 4) (tC (.int 0)))) (tRet (tLst (tCons (tC (.int 2)) tNil))) tNext)
    (tSeq (tFor (iRng2 (tCons (tCB rMax2 (tCons (tC (.int 0)) (tCons (tOp (rI0 fun i j => .int (i - j)) (tOp (rI0 fun i j => .int (i + j)) (tVar 4) (tC (.int 1))) (tCB (rLenS K) (tCons (tVar 2) tNil))) tNil))) (tCons (tVar 4) tNil))) (gName 5) (tFor (iRng1 (tCons (tOp (rI0 fun i j => .int (i - j)) (tCB (rLenS K) (tCons (tVar 2) tNil)) (tC (.int 1))) tNil)) (gName 6) (tIfS (tTest (tOp (rEqD K) (tCall (spD R_printed) [] E0 (tCons (tVar 2) (tCons (tFld K (tVar 0) "size") (tCons (tVar 3) (tCons (tVar 5) (tCons (tVar 6) tNil)))))) (tFld K (tVar 0) "lines"))) (tRet (tLst (tCons (tC (.int 1)) (tCons (tVar 5) (tCons (tVar 6) tNil))))) tNext)))
    (tRet (tLst (tCons (tC (.int 0)) tNil)))))))))
theorem d_explain {P : Program} {w : World} {K : PySem.W.Frag} {mg : Str → Option Value} {base : Heap} {C CR : Addr} (T : Tx K mg C CR) (f : Addr) (cdv : Value) (A : Around) (outer : List Env) (s : Shared) (H : Hp) (E : XK) (hr : Room 6 (A.deeper (envOfC "explain" (defScope s_explain) s.heap.objs.size f cdv))) :
    PSs (cxOf (L2.CX P w) P w K mg base N_explain "explain" (defScope s_explain) f cdv A outer s H E) (defBody s_explain) (t_explain K C CR E) := by
  have hx : Passes (L2.CX P w) (cxOf (L2.CX P w) P w K mg base N_explain "explain" (defScope s_explain) f cdv A outer s H E) E := passes_call (takes_of rfl rfl rfl rfl) (fun _ _ _ _ h => h)
  exact (pss_cons (ps_expr (pe_calX (cal_ask_start T) hr (by decide) (by rfl) hx (pa_cons (pv 1) pa_nil)))
    (pss_cons (ps_set (i := 2) sc_explain.nd rfl (Or.inl rfl) (pe_cal (cal_shown_all T) hr (by decide) (by rfl) (pa_cons (pv 0) (pa_cons (pv 1) pa_nil))))
    (pss_cons (ps_set (i := 3) sc_explain.nd rfl (Or.inl rfl) (pe_callB call_len_seq (by rfl) T.b_len PySem.boot_len (pa_cons (pe_fld (pv 0) rfl) pa_nil)))
    (pss_cons (ps_set (i := 4) sc_explain.nd rfl (Or.inl rfl) (pe_cal (cal_first_unlike T) hr (by decide) (by rfl) (pa_cons (pe_cal (cal_printed T) hr (by decide) (by rfl) (pa_cons (pv 2) (pa_cons (pe_fld (pv 0) rfl) (pa_cons (pv 3) (pa_cons (pe_un un_neg pe_int) (pa_cons (pe_un un_neg pe_int) pa_nil)))))) (pa_cons (pe_fld (pv 0) rfl) pa_nil))))
    (pss_cons (ps_if (pt_cmpR op_lt (pv 4) pe_int (nomark _)) (pss_one (ps_ret (pe_lst (pa_cons pe_int pa_nil)))) pss_nil)
    (pss_cons (ps_for (passes_of rfl) rfl (pi_range2 (by rfl) T.b_range (pa_cons (pe_callB (call_max2 rfl) (by rfl) T.b_max PyProof.Rows.boot_max (pa_cons pe_int (pa_cons (pe_op op_sub (pe_op op_add (pv 4) pe_int) (pe_callB call_len_seq (by rfl) T.b_len PySem.boot_len (pa_cons (pv 2) pa_nil))) pa_nil))) (pa_cons (pv 4) pa_nil))) (pg_name (i := 5) sc_explain.nd rfl (Or.inl rfl)) (pss_one (ps_for (passes_of rfl) rfl (pi_range1 (by rfl) T.b_range (pa_cons (pe_op op_sub (pe_callB call_len_seq (by rfl) T.b_len PySem.boot_len (pa_cons (pv 2) pa_nil)) pe_int) pa_nil)) (pg_name (i := 6) sc_explain.nd rfl (Or.inl rfl)) (pss_one (ps_if (pt_cmpR (op_eqD hr.units) (pe_cal (cal_printed T) hr (by decide) (by rfl) (pa_cons (pv 2) (pa_cons (pe_fld (pv 0) rfl) (pa_cons (pv 3) (pa_cons (pv 5) (pa_cons (pv 6) pa_nil)))))) (pe_fld (pv 0) rfl) (nomark _)) (pss_one (ps_ret (pe_lst (pa_cons pe_int (pa_cons (pv 5) (pa_cons (pv 6) pa_nil)))))) pss_nil)))))
    (pss_one (ps_ret (pe_lst (pa_cons pe_int pa_nil))))))))))
theorem run_explain {K : PySem.W.Frag} {mg : Str → Option Value} {C CR : Addr} (T : Tx K mg C CR) (c : Cc) (E : XK) (m : Dk) (ds : List PyData) (r : Res) (hc : c.C = C) (hm : c.mu = true) (h : R_explain m ds r) (hE : ∀ z e H', r = .no z → Out c H' m → H' e = some (xdN z) → E (.ref CR) (some e) H') :
    Rn c (t_explain K C CR E) (entryK N_explain ds) m (fun _ m' => r = .ok .none m') (fun d m' => r = .ok d m') := by
  obtain ⟨l, rfl, hg, rfl⟩ := h
  have hll := hg.ll
  refine q_start (a_cons (e_var rfl) a_nil) (fun hb => ?_) (fun hb e H' o he => hE _ e H' (if_neg hb) o he)
  have hl := hb.2.1
  have hl0 := hb.1
  have fin : ∀ x, explM m.size (l.map fun z => z % m.size) m.lines = x → explF m l = .ok (dI x) m := fun x e => by unfold explF; rw [if_pos hb, e]
  refine r_seq (r_asg (e_callR hc rfl (a_cons (e_var rfl) a_nil) ⟨l, rfl, hg.pos, by omega, rfl⟩) ?_)
  have hcl : (l.map fun z => z % m.size).length = l.length := List.length_map _
  generalize (l.map fun z => z % m.size) = cols at fin hcl ⊢
  refine r_seq (r_asg (e_lenI (e_lines T hc rfl).q) ?_)
  have hpl := printedM_len m.size (-1) (-1) cols m.lines.length
  refine r_seq (r_asg (e_call (a_cons (e_call (a_cons (e_var rfl) (a_cons (e_size T hc rfl) (a_cons (e_var rfl) (a_cons (e_neg e_int) (a_cons (e_neg e_int) a_nil))))) ⟨cols, m.size, -1, -1, m.lines.length, rfl, hg.pos, by omega, by omega, by omega, rfl⟩) (a_cons (e_lines T hc rfl) a_nil)) ⟨_, _, rfl, by omega, by omega, rfl⟩) ?_)
  have hp := firstM_lt (printedM m.size (-1) (-1) cols m.lines.length) m.lines
  rw [hpl] at hp
  have fin' := fin
  unfold explM at fin'
  generalize firstM (printedM m.size (-1) (-1) cols m.lines.length) m.lines = p at hp fin' ⊢
  refine r_seq (r_if (b_test (e_C0 (e_var rfl) e_int)) (fun h => ?_) (fun h => r_next ?_))
  · refine r_ret (n_lst (a_cons e_int a_nil) (by decide)).s (fin' _ (if_pos (of_decide_eq_true h)))
  · rw [if_neg (of_decide_eq_false h)] at fin'
    generalize hlo : max 0 (p + 1 - (cols.length : Int)) = lo at fin'
    have h0 : 0 ≤ p := by have := of_decide_eq_false h; omega
    refine r_seq (r_forR2 (lo := lo) (n := p) (a_cons ((e_max2 e_int (e_I0 (e_I0 (e_var rfl) e_int) (e_lenI (e_var rfl).q))).is (congrArg PyData.int hlo)) (a_cons (e_var rfl) a_nil)) (by omega) (fun _ => [.desk, .no, .val (dI cols), .val (.int (m.lines.length : Int)), .no, .no, .no]) (fun _ => m) (fun i => ∀ a, a < i → explAt m.size cols m.lines lo a = none)
      ⟨.inr rfl, .inl rfl, .inr rfl, .inr rfl, .inl rfl, .inl rfl, .inl rfl, trivial⟩ rfl (fun a ha => absurd ha (Nat.not_lt_zero _)) (fun B i hi hG => ?_) (fun hG => ?_))
    · have hc : (c.on B).C = C := hc
      refine r_forR (a_cons (e_I0 (e_lenI (e_var rfl).q) e_int) a_nil) (by omega) (by omega) (fun _ => [.desk, .no, .val (dI cols), .val (.int (m.lines.length : Int)), .no, .val (.int (lo + (i : Int))), .no]) (fun _ => m) (fun j => ∀ b, b < j → ¬ printedM m.size (lo + (i : Int)) (b : Int) cols m.lines.length = m.lines)
        ⟨.inr rfl, .inl rfl, .inr rfl, .inr rfl, .inl rfl, .inr rfl, .inl rfl, trivial⟩ rfl (fun a ha => absurd ha (Nat.not_lt_zero _)) (fun B' j hj hJ => ?_) (fun hJ => ⟨⟨.inr rfl, .inl rfl, .inr rfl, .inr rfl, .inl rfl, .inl rfl, .inl rfl, trivial⟩, rfl, fun a ha => ?_⟩)
      · have hc : ((c.on B).on B').C = C := hc
        refine r_if (b_test (e_eqL (e_call (a_cons (e_var rfl) (a_cons (e_size T hc rfl) (a_cons (e_var rfl) (a_cons (e_var rfl) (a_cons (e_var rfl) a_nil))))) ⟨cols, m.size, lo + (i : Int), (j : Int), m.lines.length, rfl, hg.pos, by omega, by omega, by omega, rfl⟩) (e_lines T hc rfl))) (fun hb => ?_) (fun hb => r_next ⟨⟨.inr rfl, .inl rfl, .inr rfl, .inr rfl, .inl rfl, .inr rfl, .inl rfl, trivial⟩, rfl, fun b hb' => ?_⟩)
        · refine r_ret (n_lst (a_cons e_int (a_cons (e_var rfl) (a_cons (e_var rfl) a_nil))) (by show 3 ≤ _; decide)).s (fin' [1, lo + (i : Int), (j : Int)] ?_)
          rw [find_some (i := i) (x := [1, lo + (i : Int), (j : Int)]) (by omega) ?_ hG] <;> try rfl
          unfold explAt
          exact find_some (i := j) (by omega) (if_pos (of_decide_eq_true hb)) (fun b hb => if_neg (hJ b hb))
        · rcases Nat.lt_or_ge b j with h | h
          · exact hJ b h
          · have : b = j := by omega
            rw [this]
            exact of_decide_eq_false hb
      · rcases Nat.lt_or_ge a i with h | h
        · exact hG a h
        · have : a = i := by omega
          rw [this]
          unfold explAt
          exact find_someN fun b hb => if_neg (hJ b (by omega))
    · refine r_ret (n_lst (a_cons e_int a_nil) (by decide)).s (fin' [0] ?_)
      rw [find_someN hG] <;> rfl
theorem cal_explain {P : Program} {w : World} {K : PySem.W.Frag} {mg : Str → Option Value} {base : Heap} {C CR : Addr} (T : Tx K mg C CR) : CalX P w K mg base (L2.CX P w) 7 "explain" (spK C CR R_explain) :=
  cal_ofX T.d_explain sc_explain bi_explain (spK_len len_explain) (d_explain T) (pureK_of (run_explain T))

/-! #### stagger -/
def staggerF (m : Dk) : Res := if m.cols = [] then .no (-6) else .ok (dI ((m.cols.length : Int) :: staggerM m.size m.cols)) { m with cols := staggerM m.size m.cols }
def R_stagger (m : Dk) (ds : List PyData) (r : Res) : Prop := ds = [] ∧ Good m ∧ r = staggerF m
theorem len_stagger : ∀ m ds r, R_stagger m ds r → ds.length + 1 = 1 := fun _ _ _ ⟨h, _⟩ => by rw [h] <;> rfl
theorem staggerM_len (size : Int) (cols : List Int) : (staggerM size cols).length = cols.length := by unfold staggerM; rw [List.length_map, List.length_range]
abbrev s_stagger : Stmt := top 75
abbrev N_stagger : List Str := ["desk"]
theorem sc_stagger : FnScope N_stagger ["desk"] (defScope s_stagger) := C8.fnScope_by (by decide +kernel)
theorem bi_stagger : BindsAt "stagger" s_stagger ["desk"] := fun _ _ _ _ _ _ us hl => match us, hl with | [_], _ => rfl
def t_stagger (K : PySem.W.Frag) (C CR : Addr) (E : XK) : TS :=
  (tSeq (tDrop (tCall (spK C CR R_ask_columns) [] E (tCons (tVar 0) tNil)))
    (tSeq (sFld K (tVar 0) (tCall (spD R_staggered) [] E0 (tCons (tFld K (tVar 0) "columns") (tCons (tFld K (tVar 0) "size") tNil))) "columns")
    (tRet (tCall (spK C CR R_columns_told) [] E0 (tCons (tVar 0) tNil)))))
theorem d_stagger {P : Program} {w : World} {K : PySem.W.Frag} {mg : Str → Option Value} {base : Heap} {C CR : Addr} (T : Tx K mg C CR) (f : Addr) (cdv : Value) (A : Around) (outer : List Env) (s : Shared) (H : Hp) (E : XK) (hr : Room 4 (A.deeper (envOfC "stagger" (defScope s_stagger) s.heap.objs.size f cdv))) :
    PSs (cxOf (L2.CX P w) P w K mg base N_stagger "stagger" (defScope s_stagger) f cdv A outer s H E) (defBody s_stagger) (t_stagger K C CR E) := by
  have hx : Passes (L2.CX P w) (cxOf (L2.CX P w) P w K mg base N_stagger "stagger" (defScope s_stagger) f cdv A outer s H E) E := passes_call (takes_of rfl rfl rfl rfl) (fun _ _ _ _ h => h)
  exact (pss_cons (ps_expr (pe_calX (cal_ask_columns T) hr (by decide) (by rfl) hx (pa_cons (pv 0) pa_nil)))
    (pss_cons (ps_fld (pv 0) (pe_cal (cal_staggered T) hr (by decide) (by rfl) (pa_cons (pe_fld (pv 0) rfl) (pa_cons (pe_fld (pv 0) rfl) pa_nil))) rfl)
    (pss_one (ps_ret (pe_cal (cal_columns_told T) hr (by decide) (by rfl) (pa_cons (pv 0) pa_nil))))))
theorem run_stagger {K : PySem.W.Frag} {mg : Str → Option Value} {C CR : Addr} (T : Tx K mg C CR) (c : Cc) (E : XK) (m : Dk) (ds : List PyData) (r : Res) (hc : c.C = C) (hm : c.mu = true) (h : R_stagger m ds r) (hE : ∀ z e H', r = .no z → Out c H' m → H' e = some (xdN z) → E (.ref CR) (some e) H') :
    Rn c (t_stagger K C CR E) (entryK N_stagger ds) m (fun _ m' => r = .ok .none m') (fun d m' => r = .ok d m') := by
  obtain ⟨rfl, hg, rfl⟩ := h
  have hcl := hg.cl
  refine q_cols hc hm rfl (fun h2 => ?_) (fun h2 e H' o he => hE _ e H' (if_pos h2) o he)
  refine r_seq (r_putC T hc hm rfl (e_call (a_cons (e_cols T hc rfl) (a_cons (e_size T hc rfl) a_nil)) ⟨_, _, rfl, hg.pos, by omega, rfl⟩) ?_)
  have hsl := staggerM_len m.size m.cols
  refine r_retK hc hm rfl a_nil ⟨rfl, by show (staggerM m.size m.cols).length ≤ _; omega, rfl⟩ (fun d m' e => ?_) (fun z e H' q => nomatch q)
  cases e
  unfold staggerF
  rw [if_neg h2, ← hsl]
theorem cal_stagger {P : Program} {w : World} {K : PySem.W.Frag} {mg : Str → Option Value} {base : Heap} {C CR : Addr} (T : Tx K mg C CR) : CalX P w K mg base (L2.CX P w) 5 "stagger" (spK C CR R_stagger) :=
  cal_ofX T.d_stagger sc_stagger bi_stagger (spK_len len_stagger) (d_stagger T) (pureK_of (run_stagger T))

/-! #### takes -/
def takesL (lines l : List Int) : List Int := [if decide (Vbcead.leading l.length lines = l) = true then 1 else 0, if decide ((List.range lines.length).map (fun (x : Nat) => Vbcead.valueAt l (x : Int)) = lines) = true then 1 else 0]
def takesF (m : Dk) (l : List Int) : Res := if StartOk l then (if (l.length : Int) ≤ (m.lines.length : Int) then .ok (dI (takesL m.lines l)) m else .no (-5)) else .no (-1)
def R_takes (m : Dk) (ds : List PyData) (r : Res) : Prop := ∃ l : List Int, ds = [dI l] ∧ Good m ∧ r = takesF m l
theorem len_takes : ∀ m ds r, R_takes m ds r → ds.length + 1 = 2 := fun _ _ _ ⟨_, h, _⟩ => by rw [h] <;> rfl
theorem great_lt {l : List Int} (h : l.all Vbcead.isGreat = true) : ∀ a ∈ l, a.natAbs < 2 ^ 200 := fun a ha => by
  have := List.all_eq_true.mp h a ha
  have := (great_iff a).mp this
  have e : (2 : Nat) ^ 200 = 1606938044258990275541962092341162602522202993782792835301376 := by decide
  rw [e]
  omega
abbrev s_takes : Stmt := top 76
abbrev N_takes : List Str := ["desk", "some", "is_start", "x"]
theorem sc_takes : FnScope N_takes ["desk", "some"] (defScope s_takes) := C8.fnScope_by (by decide +kernel)
theorem bi_takes : BindsAt "takes" s_takes ["desk", "some"] := fun _ _ _ _ _ _ us hl => match us, hl with | [_, _], _ => rfl
def t_takes (K : PySem.W.Frag) (C CR : Addr) (E : XK) : TS :=
  (tSeq (tDrop (tCall (spE CR R_ask_start) [] E (tCons (tVar 1) tNil)))
    (tSeq (tDrop (tCall (spE CR R_ask) [] E (tCons (tOp (rI0 fun i j => .bl (decide (j ≤ i))) (tCB (rLenS K) (tCons (tFld K (tVar 0) "lines") tNil)) (tCB (rLenS K) (tCons (tVar 1) tNil))) (tCons (tUn (rU fun i => .int (-i)) (tC (.int 5))) tNil))))
    (tSeq (tAsg (tOp (rEqD K) (tCall (spD R_start_of) [] E0 (tCons (tFld K (tVar 0) "lines") (tCons (tCB (rLenS K) (tCons (tVar 1) tNil)) tNil))) (tVar 1)) (gName 2))
    (tRet (tLst (tCons (tCB rInt1 (tCons (tVar 2) tNil)) (tCons (tCB rInt1 (tCons (tOp (rEqD K) (tLc (iRng1 (tCons (tCB (rLenS K) (tCons (tFld K (tVar 0) "lines") tNil)) tNil)) (gName 3) tYes (tCall (spD R_value_by) [] E0 (tCons (tVar 1) (tCons (tVar 3) tNil))) [3]) (tFld K (tVar 0) "lines")) tNil)) tNil)))))))
theorem d_takes {P : Program} {w : World} {K : PySem.W.Frag} {mg : Str → Option Value} {base : Heap} {C CR : Addr} (T : Tx K mg C CR) (f : Addr) (cdv : Value) (A : Around) (outer : List Env) (s : Shared) (H : Hp) (E : XK) (hr : Room 6 (A.deeper (envOfC "takes" (defScope s_takes) s.heap.objs.size f cdv))) :
    PSs (cxOf (L2.CX P w) P w K mg base N_takes "takes" (defScope s_takes) f cdv A outer s H E) (defBody s_takes) (t_takes K C CR E) := by
  have hx : Passes (L2.CX P w) (cxOf (L2.CX P w) P w K mg base N_takes "takes" (defScope s_takes) f cdv A outer s H E) E := passes_call (takes_of rfl rfl rfl rfl) (fun _ _ _ _ h => h)
  exact (pss_cons (ps_expr (pe_calX (cal_ask_start T) hr (by decide) (by rfl) hx (pa_cons (pv 1) pa_nil)))
    (pss_cons (ps_expr (pe_calX (cal_ask T) hr (by decide) (by rfl) hx (pa_cons (pe_cmpR op_ge (pe_callB call_len_seq (by rfl) T.b_len PySem.boot_len (pa_cons (pe_fld (pv 0) rfl) pa_nil)) (pe_callB call_len_seq (by rfl) T.b_len PySem.boot_len (pa_cons (pv 1) pa_nil)) (nomark _)) (pa_cons (pe_un un_neg pe_int) pa_nil))))
    (pss_cons (ps_set (i := 2) sc_takes.nd rfl (Or.inl rfl) (pe_cmpR (op_eqD hr.units) (pe_cal (cal_start_of T) hr (by decide) (by rfl) (pa_cons (pe_fld (pv 0) rfl) (pa_cons (pe_callB call_len_seq (by rfl) T.b_len PySem.boot_len (pa_cons (pv 1) pa_nil)) pa_nil))) (pv 1) (nomark _)))
    (pss_one (ps_ret (pe_lst (pa_cons (pe_callTy call_int1 (by rfl) T.b_int PyProof.Rows.boot_int (pa_cons (pv 2) pa_nil)) (pa_cons (pe_callTy call_int1 (by rfl) T.b_int PyProof.Rows.boot_int (pa_cons (pe_cmpR (op_eqD hr.units) (pe_lc (own := [("x", 3)]) rfl sc_takes.nd (pi_range1 (by rfl) T.b_range (pa_cons (pe_callB call_len_seq (by rfl) T.b_len PySem.boot_len (pa_cons (pe_fld (pv 0) rfl) pa_nil)) pa_nil)) (blkOk_by (own := [("x", 3)]) (N := N_takes) (sc := defScope s_takes) (by decide +kernel)) (fun _ _ _ _ _ => (pg_name (i := 3) sc_takes.nd rfl (Or.inl rfl))) (fun _ _ _ _ _ => pts_nil) (fun _ _ _ _ _ => (pe_cal (cal_value_by T) hr (by decide) (by rfl) (pa_cons (pv 1) (pa_cons (pv 3) pa_nil))))) (pe_fld (pv 0) rfl) (nomark _)) pa_nil)) pa_nil))))))))
theorem run_takes {K : PySem.W.Frag} {mg : Str → Option Value} {C CR : Addr} (T : Tx K mg C CR) (c : Cc) (E : XK) (m : Dk) (ds : List PyData) (r : Res) (hc : c.C = C) (hm : c.mu = true) (h : R_takes m ds r) (hE : ∀ z e H', r = .no z → Out c H' m → H' e = some (xdN z) → E (.ref CR) (some e) H') :
    Rn c (t_takes K C CR E) (entryK N_takes ds) m (fun _ m' => r = .ok .none m') (fun d m' => r = .ok d m') := by
  obtain ⟨l, rfl, hg, rfl⟩ := h
  have hll := hg.ll
  refine q_start (a_cons (e_var rfl) a_nil) (fun hb => ?_) (fun hb e H' o he => hE _ e H' (if_neg hb) o he)
  have hl := hb.2.1
  refine q_ask (a_cons (e_C0 (e_lenI (e_lines T hc rfl).q) (e_lenI (e_var rfl).q)) (a_cons (e_neg e_int) a_nil)) (fun h3 => ?_) (fun h3 e H' o he => hE _ e H' (by unfold takesF; rw [if_pos hb, if_neg (of_decide_eq_false h3)]) o he)
  have h3 := of_decide_eq_true h3
  refine r_seq (r_asg (e_eqL (e_call (a_cons (e_lines T hc rfl) (a_cons (e_lenI (e_var rfl).q) a_nil)) ⟨m.lines, l.length, rfl, by omega, by omega, rfl⟩) (e_var rfl)) ?_)
  refine r_ret (n_lst (a_cons (e_intB (e_var rfl)) (a_cons (e_intB (e_eqL ((n_lcR0 (v := fun x => .int (Vbcead.valueAt l (x : Int))) (a_cons (e_lenI (e_lines T hc rfl).q) a_nil) (by omega) (by omega) (by decide) (fun x hx => e_call (a_cons (e_var rfl) (a_cons (e_var rfl) a_nil)) ⟨l, _, rfl, by omega, great_lt hb.2.2, by omega, rfl⟩)).s.is (d' := dI ((List.range m.lines.length).map fun (x : Nat) => Vbcead.valueAt l (x : Int))) ?_) (e_lines T hc rfl))) a_nil)) (by show 2 ≤ _; decide)).s ?_
  · rw [Int.toNat_natCast]
    show PyData.list _ = PyData.list (List.map PyData.int (List.map _ _))
    rw [List.map_map] <;> rfl
  · unfold takesF
    rw [if_pos hb, if_pos h3] <;> rfl
theorem cal_takes {P : Program} {w : World} {K : PySem.W.Frag} {mg : Str → Option Value} {base : Heap} {C CR : Addr} (T : Tx K mg C CR) : CalX P w K mg base (L2.CX P w) 7 "takes" (spK C CR R_takes) :=
  cal_ofX T.d_takes sc_takes bi_takes (spK_len len_takes) (d_takes T) (pureK_of (run_takes T))

/-! #### clear -/
def clearF (_ : Dk) : Res := .ok (dI [0]) ⟨10 ^ 20, [], []⟩
def R_clear (m : Dk) (ds : List PyData) (r : Res) : Prop := ds = [] ∧ r = clearF m
theorem len_clear : ∀ m ds r, R_clear m ds r → ds.length + 1 = 1 := fun _ _ _ ⟨h, _⟩ => by rw [h] <;> rfl
abbrev s_clear : Stmt := top 77
abbrev N_clear : List Str := ["desk"]
theorem sc_clear : FnScope N_clear ["desk"] (defScope s_clear) := C8.fnScope_by (by decide +kernel)
theorem bi_clear : BindsAt "clear" s_clear ["desk"] := fun _ _ _ _ _ _ us hl => match us, hl with | [_], _ => rfl
def t_clear (K : PySem.W.Frag) (C CR : Addr) : TS :=
  (tSeq (sFld K (tVar 0) (tCall (spD R_size_of) [] E0 (tCons (tC (.int 20)) tNil)) "size")
    (tSeq (sFld K (tVar 0) (tLst tNil) "columns")
    (tSeq (sFld K (tVar 0) (tLst tNil) "lines")
    (tRet (tLst (tCons (tC (.int 0)) tNil))))))
theorem d_clear {P : Program} {w : World} {K : PySem.W.Frag} {mg : Str → Option Value} {base : Heap} {C CR : Addr} (T : Tx K mg C CR) (f : Addr) (cdv : Value) (A : Around) (outer : List Env) (s : Shared) (H : Hp) (E : XK) (hr : Room 1 (A.deeper (envOfC "clear" (defScope s_clear) s.heap.objs.size f cdv))) :
    PSs (cxOf CX0 P w K mg base N_clear "clear" (defScope s_clear) f cdv A outer s H E).nox (defBody s_clear) (t_clear K C CR) :=
  (pss_cons (ps_fld (pv 0) (pe_cal (cal_size_of T) hr (by decide) (by rfl) (pa_cons (pe_gI (by rfl) T.g_FIRST_WHEELS) pa_nil)) rfl)
    (pss_cons (ps_fld (pv 0) (pe_lst pa_nil) rfl)
    (pss_cons (ps_fld (pv 0) (pe_lst pa_nil) rfl)
    (pss_one (ps_ret (pe_lst (pa_cons pe_int pa_nil)))))))
theorem run_clear {K : PySem.W.Frag} {mg : Str → Option Value} {C CR : Addr} (T : Tx K mg C CR) (c : Cc) (E : XK) (m : Dk) (ds : List PyData) (r : Res) (hc : c.C = C) (hm : c.mu = true) (h : R_clear m ds r) (hE : ∀ z e H', r = .no z → Out c H' m → H' e = some (xdN z) → E (.ref CR) (some e) H') :
    Rn c (t_clear K C CR) (entryK N_clear ds) m (fun _ m' => r = .ok .none m') (fun d m' => r = .ok d m') := by
  obtain ⟨rfl, rfl⟩ := h
  refine r_seq (r_putS T hc hm rfl (e_call (a_cons e_int a_nil) ⟨20, rfl, by omega, rfl⟩) ?_)
  refine r_seq (r_putC T hc hm (l := []) rfl (n_lst a_nil (by decide)).s ?_)
  refine r_seq (r_putL T hc hm (l := []) rfl (n_lst a_nil (by decide)).s ?_)
  exact r_ret (n_lst (a_cons e_int a_nil) (by decide)).s rfl
theorem cal_clear {P : Program} {w : World} {K : PySem.W.Frag} {mg : Str → Option Value} {base : Heap} {C CR : Addr} (T : Tx K mg C CR) : CalX P w K mg base CX0 2 "clear" (spK C CR R_clear) :=
  cal_of T.d_clear sc_clear bi_clear (spK_len len_clear) (d_clear T) (fun vs H Q E h => pureK_of (t := fun _ => t_clear K C CR) (run_clear T) vs H Q E h)

/-! #### of_slips -/
/-- how many numbers a call has -/
def needs (s : Int) : Nat := if s = 0 then 1 else if s = 3 then 1 else if s = 4 then 1 else if s = 5 then 2 else if s = 6 then 1 else if s = 9 then 2 else if s = 10 then 1 else if s = 11 then 1 else if s = 13 then 2 else if s = 14 then 1 else if s = 15 then 1 else if s = 16 then 1 else if s = 17 then 1 else if s = 19 then 1 else 0
def slipsF (m : Dk) (sort : Int) (ns l : List Int) : Res := if sort = 15 then clerkF m (ns.getD 0 0) else if sort = 16 then mendF m (ns.getD 0 0) else if sort = 17 then bearsF m (ns.getD 0 0) else if sort = 18 then rivalF m l else if sort = 19 then halfwayF m (ns.getD 0 0) else takesF m l
def R_of_slips (m : Dk) (ds : List PyData) (r : Res) : Prop := ∃ (sort : Int) (ns l : List Int), ds = [.int sort, dI ns, dI l] ∧ Good m ∧ l.length ≤ 1000 ∧ ns.length = needs sort ∧ r = slipsF m sort ns l
theorem len_of_slips : ∀ m ds r, R_of_slips m ds r → ds.length + 1 = 4 := fun _ _ _ ⟨_, _, _, h, _⟩ => by rw [h] <;> rfl
abbrev s_of_slips : Stmt := top 80
abbrev N_of_slips : List Str := ["desk", "sort", "numbers", "some"]
theorem sc_of_slips : FnScope N_of_slips ["desk", "sort", "numbers", "some"] (defScope s_of_slips) := C8.fnScope_by (by decide +kernel)
theorem bi_of_slips : BindsAt "of_slips" s_of_slips ["desk", "sort", "numbers", "some"] := fun _ _ _ _ _ _ us hl => match us, hl with | [_, _, _, _], _ => rfl
def t_of_slips (K : PySem.W.Frag) (C CR : Addr) (E : XK) : TS :=
  (tSeq (tIfS (tTest (tOp rEq (tVar 1) (tC (.int 15)))) (tRet (tCall (spK C CR R_clerk_told) [] E (tCons (tVar 0) (tCons (tOp (rIxL K) (tVar 2) (tC (.int 0))) tNil)))) tNext)
    (tSeq (tIfS (tTest (tOp rEq (tVar 1) (tC (.int 16)))) (tRet (tCall (spK C CR R_mend) [] E (tCons (tVar 0) (tCons (tOp (rIxL K) (tVar 2) (tC (.int 0))) tNil)))) tNext)
    (tSeq (tIfS (tTest (tOp rEq (tVar 1) (tC (.int 17)))) (tRet (tCall (spK C CR R_bears) [] E (tCons (tVar 0) (tCons (tOp (rIxL K) (tVar 2) (tC (.int 0))) tNil)))) tNext)
    (tSeq (tIfS (tTest (tOp rEq (tVar 1) (tC (.int 18)))) (tRet (tCall (spK C CR R_rival) [] E (tCons (tVar 0) (tCons (tVar 3) tNil)))) tNext)
    (tSeq (tIfS (tTest (tOp rEq (tVar 1) (tC (.int 19)))) (tRet (tCall (spK C CR R_halfway_told) [] E (tCons (tVar 0) (tCons (tOp (rIxL K) (tVar 2) (tC (.int 0))) tNil)))) tNext)
    (tRet (tCall (spK C CR R_takes) [] E (tCons (tVar 0) (tCons (tVar 3) tNil)))))))))
theorem d_of_slips {P : Program} {w : World} {K : PySem.W.Frag} {mg : Str → Option Value} {base : Heap} {C CR : Addr} (T : Tx K mg C CR) (f : Addr) (cdv : Value) (A : Around) (outer : List Env) (s : Shared) (H : Hp) (E : XK) (hr : Room 7 (A.deeper (envOfC "of_slips" (defScope s_of_slips) s.heap.objs.size f cdv))) :
    PSs (cxOf (L2.CX P w) P w K mg base N_of_slips "of_slips" (defScope s_of_slips) f cdv A outer s H E) (defBody s_of_slips) (t_of_slips K C CR E) := by
  have hx : Passes (L2.CX P w) (cxOf (L2.CX P w) P w K mg base N_of_slips "of_slips" (defScope s_of_slips) f cdv A outer s H E) E := passes_call (takes_of rfl rfl rfl rfl) (fun _ _ _ _ h => h)
  exact (pss_cons (ps_if (pt_cmpR op_eq (pv 1) pe_int (nomark _)) (pss_one (ps_ret (pe_calX (cal_clerk_told T) hr (by decide) (by rfl) hx (pa_cons (pv 0) (pa_cons (pe_ix ix_list (pv 2) pe_int (fun _ _ => rfl)) pa_nil))))) pss_nil)
    (pss_cons (ps_if (pt_cmpR op_eq (pv 1) pe_int (nomark _)) (pss_one (ps_ret (pe_calX (cal_mend T) hr (by decide) (by rfl) hx (pa_cons (pv 0) (pa_cons (pe_ix ix_list (pv 2) pe_int (fun _ _ => rfl)) pa_nil))))) pss_nil)
    (pss_cons (ps_if (pt_cmpR op_eq (pv 1) pe_int (nomark _)) (pss_one (ps_ret (pe_calX (cal_bears T) hr (by decide) (by rfl) hx (pa_cons (pv 0) (pa_cons (pe_ix ix_list (pv 2) pe_int (fun _ _ => rfl)) pa_nil))))) pss_nil)
    (pss_cons (ps_if (pt_cmpR op_eq (pv 1) pe_int (nomark _)) (pss_one (ps_ret (pe_calX (cal_rival T) hr (by decide) (by rfl) hx (pa_cons (pv 0) (pa_cons (pv 3) pa_nil))))) pss_nil)
    (pss_cons (ps_if (pt_cmpR op_eq (pv 1) pe_int (nomark _)) (pss_one (ps_ret (pe_calX (cal_halfway_told T) hr (by decide) (by rfl) hx (pa_cons (pv 0) (pa_cons (pe_ix ix_list (pv 2) pe_int (fun _ _ => rfl)) pa_nil))))) pss_nil)
    (pss_one (ps_ret (pe_calX (cal_takes T) hr (by decide) (by rfl) hx (pa_cons (pv 0) (pa_cons (pv 3) pa_nil))))))))))
theorem run_of_slips {K : PySem.W.Frag} {mg : Str → Option Value} {C CR : Addr} (T : Tx K mg C CR) (c : Cc) (E : XK) (m : Dk) (ds : List PyData) (r : Res) (hc : c.C = C) (hm : c.mu = true) (h : R_of_slips m ds r) (hE : ∀ z e H', r = .no z → Out c H' m → H' e = some (xdN z) → E (.ref CR) (some e) H') :
    Rn c (t_of_slips K C CR E) (entryK N_of_slips ds) m (fun _ m' => r = .ok .none m') (fun d m' => r = .ok d m') := by
  obtain ⟨sort, ns, l, rfl, hg, hl, hn, rfl⟩ := h
  have hll := hg.ll
  refine r_seq (r_if (b_test (e_eqI (e_var rfl) e_int)) (fun z => ?_) (fun z => r_next ?_))
  · have z := of_decide_eq_true z
    have e0 : slipsF m sort ns l = clerkF m (ns.getD 0 0) := by unfold slipsF; rw [if_pos z]
    have hnl : ns.length = 1 := by rw [hn, z] <;> rfl
    exact r_retK (r := clerkF m (ns.getD 0 0)) hc hm rfl (a_cons (e_ixI (e_var rfl).q e_int (by decide) (by omega)) a_nil) ⟨_, rfl, hg, rfl⟩ (fun d m' e => e0.trans e) (fun z e H' q o he => hE z e H' (e0.trans q) o he)
  have h15 := of_decide_eq_false z
  clear z
  refine r_seq (r_if (b_test (e_eqI (e_var rfl) e_int)) (fun z => ?_) (fun z => r_next ?_))
  · have z := of_decide_eq_true z
    have e0 : slipsF m sort ns l = mendF m (ns.getD 0 0) := by unfold slipsF; rw [if_neg h15, if_pos z]
    have hnl : ns.length = 1 := by rw [hn, z] <;> rfl
    exact r_retK (r := mendF m (ns.getD 0 0)) hc hm rfl (a_cons (e_ixI (e_var rfl).q e_int (by decide) (by omega)) a_nil) ⟨_, rfl, hg, rfl⟩ (fun d m' e => e0.trans e) (fun z e H' q o he => hE z e H' (e0.trans q) o he)
  have h16 := of_decide_eq_false z
  clear z
  refine r_seq (r_if (b_test (e_eqI (e_var rfl) e_int)) (fun z => ?_) (fun z => r_next ?_))
  · have z := of_decide_eq_true z
    have e0 : slipsF m sort ns l = bearsF m (ns.getD 0 0) := by unfold slipsF; rw [if_neg h15, if_neg h16, if_pos z]
    have hnl : ns.length = 1 := by rw [hn, z] <;> rfl
    exact r_retK (r := bearsF m (ns.getD 0 0)) hc hm rfl (a_cons (e_ixI (e_var rfl).q e_int (by decide) (by omega)) a_nil) ⟨_, rfl, hg, rfl⟩ (fun d m' e => e0.trans e) (fun z e H' q o he => hE z e H' (e0.trans q) o he)
  have h17 := of_decide_eq_false z
  clear z
  refine r_seq (r_if (b_test (e_eqI (e_var rfl) e_int)) (fun z => ?_) (fun z => r_next ?_))
  · have z := of_decide_eq_true z
    have e0 : slipsF m sort ns l = rivalF m l := by unfold slipsF; rw [if_neg h15, if_neg h16, if_neg h17, if_pos z]
    exact r_retK (r := rivalF m l) hc hm rfl (a_cons (e_var rfl) a_nil) ⟨_, rfl, hl, hg, rfl⟩ (fun d m' e => e0.trans e) (fun z e H' q o he => hE z e H' (e0.trans q) o he)
  have h18 := of_decide_eq_false z
  clear z
  refine r_seq (r_if (b_test (e_eqI (e_var rfl) e_int)) (fun z => ?_) (fun z => r_next ?_))
  · have z := of_decide_eq_true z
    have e0 : slipsF m sort ns l = halfwayF m (ns.getD 0 0) := by unfold slipsF; rw [if_neg h15, if_neg h16, if_neg h17, if_neg h18, if_pos z]
    have hnl : ns.length = 1 := by rw [hn, z] <;> rfl
    exact r_retK (r := halfwayF m (ns.getD 0 0)) hc hm rfl (a_cons (e_ixI (e_var rfl).q e_int (by decide) (by omega)) a_nil) ⟨_, rfl, hg, rfl⟩ (fun d m' e => e0.trans e) (fun z e H' q o he => hE z e H' (e0.trans q) o he)
  have h19 := of_decide_eq_false z
  clear z
  · skip
    have e0 : slipsF m sort ns l = takesF m l := by unfold slipsF; rw [if_neg h15, if_neg h16, if_neg h17, if_neg h18, if_neg h19]
    exact r_retK (r := takesF m l) hc hm rfl (a_cons (e_var rfl) a_nil) ⟨_, rfl, hg, rfl⟩ (fun d m' e => e0.trans e) (fun z e H' q o he => hE z e H' (e0.trans q) o he)
theorem cal_of_slips {P : Program} {w : World} {K : PySem.W.Frag} {mg : Str → Option Value} {base : Heap} {C CR : Addr} (T : Tx K mg C CR) : CalX P w K mg base (L2.CX P w) 8 "of_slips" (spK C CR R_of_slips) :=
  cal_ofX T.d_of_slips sc_of_slips bi_of_slips (spK_len len_of_slips) (d_of_slips T) (pureK_of (run_of_slips T))

/-! #### of_sheet -/
def sheetsF (m : Dk) (sort : Int) (ns l : List Int) : Res := if sort = 7 then sheetF m l else if sort = 8 then Res.ok (dI (toldM m.lines)) m else if sort = 9 then changeF m (ns.getD 0 0) (ns.getD 1 0) else if sort = 10 then diffF m (ns.getD 0 0) else if sort = 11 then startF m (ns.getD 0 0) else if sort = 12 then Res.ok (dI [(Vbcead.degree m.lines : Int)]) m else if sort = 13 then valueF m (ns.getD 0 0) (ns.getD 1 0) else if sort = 14 then cleanF m (ns.getD 0 0) else slipsF m sort ns l
def R_of_sheet (m : Dk) (ds : List PyData) (r : Res) : Prop := ∃ (sort : Int) (ns l : List Int), ds = [.int sort, dI ns, dI l] ∧ Good m ∧ l.length ≤ 1000 ∧ ns.length = needs sort ∧ r = sheetsF m sort ns l
theorem len_of_sheet : ∀ m ds r, R_of_sheet m ds r → ds.length + 1 = 4 := fun _ _ _ ⟨_, _, _, h, _⟩ => by rw [h] <;> rfl
abbrev s_of_sheet : Stmt := top 79
abbrev N_of_sheet : List Str := ["desk", "sort", "numbers", "some"]
theorem sc_of_sheet : FnScope N_of_sheet ["desk", "sort", "numbers", "some"] (defScope s_of_sheet) := C8.fnScope_by (by decide +kernel)
theorem bi_of_sheet : BindsAt "of_sheet" s_of_sheet ["desk", "sort", "numbers", "some"] := fun _ _ _ _ _ _ us hl => match us, hl with | [_, _, _, _], _ => rfl
def t_of_sheet (K : PySem.W.Frag) (C CR : Addr) (E : XK) : TS :=
  (tSeq (tIfS (tTest (tOp rEq (tVar 1) (tC (.int 7)))) (tRet (tCall (spK C CR R_sheet) [] E (tCons (tVar 0) (tCons (tVar 3) tNil)))) tNext)
    (tSeq (tIfS (tTest (tOp rEq (tVar 1) (tC (.int 8)))) (tRet (tCall (spD R_told) [] E0 (tCons (tFld K (tVar 0) "lines") tNil))) tNext)
    (tSeq (tIfS (tTest (tOp rEq (tVar 1) (tC (.int 9)))) (tRet (tCall (spK C CR R_change) [] E (tCons (tVar 0) (tCons (tOp (rIxL K) (tVar 2) (tC (.int 0))) (tCons (tOp (rIxL K) (tVar 2) (tC (.int 1))) tNil))))) tNext)
    (tSeq (tIfS (tTest (tOp rEq (tVar 1) (tC (.int 10)))) (tRet (tCall (spK C CR R_differences_told) [] E (tCons (tVar 0) (tCons (tOp (rIxL K) (tVar 2) (tC (.int 0))) tNil)))) tNext)
    (tSeq (tIfS (tTest (tOp rEq (tVar 1) (tC (.int 11)))) (tRet (tCall (spK C CR R_start_told) [] E (tCons (tVar 0) (tCons (tOp (rIxL K) (tVar 2) (tC (.int 0))) tNil)))) tNext)
    (tSeq (tIfS (tTest (tOp rEq (tVar 1) (tC (.int 12)))) (tRet (tLst (tCons (tCall (spD R_degree_of) [] E0 (tCons (tFld K (tVar 0) "lines") tNil)) tNil))) tNext)
    (tSeq (tIfS (tTest (tOp rEq (tVar 1) (tC (.int 13)))) (tRet (tCall (spK C CR R_value) [] E (tCons (tVar 0) (tCons (tOp (rIxL K) (tVar 2) (tC (.int 0))) (tCons (tOp (rIxL K) (tVar 2) (tC (.int 1))) tNil))))) tNext)
    (tSeq (tIfS (tTest (tOp rEq (tVar 1) (tC (.int 14)))) (tRet (tCall (spK C CR R_clean) [] E (tCons (tVar 0) (tCons (tOp (rIxL K) (tVar 2) (tC (.int 0))) tNil)))) tNext)
    (tRet (tCall (spK C CR R_of_slips) [] E (tCons (tVar 0) (tCons (tVar 1) (tCons (tVar 2) (tCons (tVar 3) tNil))))))))))))))
theorem d_of_sheet {P : Program} {w : World} {K : PySem.W.Frag} {mg : Str → Option Value} {base : Heap} {C CR : Addr} (T : Tx K mg C CR) (f : Addr) (cdv : Value) (A : Around) (outer : List Env) (s : Shared) (H : Hp) (E : XK) (hr : Room 8 (A.deeper (envOfC "of_sheet" (defScope s_of_sheet) s.heap.objs.size f cdv))) :
    PSs (cxOf (L2.CX P w) P w K mg base N_of_sheet "of_sheet" (defScope s_of_sheet) f cdv A outer s H E) (defBody s_of_sheet) (t_of_sheet K C CR E) := by
  have hx : Passes (L2.CX P w) (cxOf (L2.CX P w) P w K mg base N_of_sheet "of_sheet" (defScope s_of_sheet) f cdv A outer s H E) E := passes_call (takes_of rfl rfl rfl rfl) (fun _ _ _ _ h => h)
  exact (pss_cons (ps_if (pt_cmpR op_eq (pv 1) pe_int (nomark _)) (pss_one (ps_ret (pe_calX (cal_sheet T) hr (by decide) (by rfl) hx (pa_cons (pv 0) (pa_cons (pv 3) pa_nil))))) pss_nil)
    (pss_cons (ps_if (pt_cmpR op_eq (pv 1) pe_int (nomark _)) (pss_one (ps_ret (pe_cal (cal_told T) hr (by decide) (by rfl) (pa_cons (pe_fld (pv 0) rfl) pa_nil)))) pss_nil)
    (pss_cons (ps_if (pt_cmpR op_eq (pv 1) pe_int (nomark _)) (pss_one (ps_ret (pe_calX (cal_change T) hr (by decide) (by rfl) hx (pa_cons (pv 0) (pa_cons (pe_ix ix_list (pv 2) pe_int (fun _ _ => rfl)) (pa_cons (pe_ix ix_list (pv 2) pe_int (fun _ _ => rfl)) pa_nil)))))) pss_nil)
    (pss_cons (ps_if (pt_cmpR op_eq (pv 1) pe_int (nomark _)) (pss_one (ps_ret (pe_calX (cal_differences_told T) hr (by decide) (by rfl) hx (pa_cons (pv 0) (pa_cons (pe_ix ix_list (pv 2) pe_int (fun _ _ => rfl)) pa_nil))))) pss_nil)
    (pss_cons (ps_if (pt_cmpR op_eq (pv 1) pe_int (nomark _)) (pss_one (ps_ret (pe_calX (cal_start_told T) hr (by decide) (by rfl) hx (pa_cons (pv 0) (pa_cons (pe_ix ix_list (pv 2) pe_int (fun _ _ => rfl)) pa_nil))))) pss_nil)
    (pss_cons (ps_if (pt_cmpR op_eq (pv 1) pe_int (nomark _)) (pss_one (ps_ret (pe_lst (pa_cons (pe_cal (cal_degree_of T) hr (by decide) (by rfl) (pa_cons (pe_fld (pv 0) rfl) pa_nil)) pa_nil)))) pss_nil)
    (pss_cons (ps_if (pt_cmpR op_eq (pv 1) pe_int (nomark _)) (pss_one (ps_ret (pe_calX (cal_value T) hr (by decide) (by rfl) hx (pa_cons (pv 0) (pa_cons (pe_ix ix_list (pv 2) pe_int (fun _ _ => rfl)) (pa_cons (pe_ix ix_list (pv 2) pe_int (fun _ _ => rfl)) pa_nil)))))) pss_nil)
    (pss_cons (ps_if (pt_cmpR op_eq (pv 1) pe_int (nomark _)) (pss_one (ps_ret (pe_calX (cal_clean T) hr (by decide) (by rfl) hx (pa_cons (pv 0) (pa_cons (pe_ix ix_list (pv 2) pe_int (fun _ _ => rfl)) pa_nil))))) pss_nil)
    (pss_one (ps_ret (pe_calX (cal_of_slips T) hr (by decide) (by rfl) hx (pa_cons (pv 0) (pa_cons (pv 1) (pa_cons (pv 2) (pa_cons (pv 3) pa_nil)))))))))))))))
theorem run_of_sheet {K : PySem.W.Frag} {mg : Str → Option Value} {C CR : Addr} (T : Tx K mg C CR) (c : Cc) (E : XK) (m : Dk) (ds : List PyData) (r : Res) (hc : c.C = C) (hm : c.mu = true) (h : R_of_sheet m ds r) (hE : ∀ z e H', r = .no z → Out c H' m → H' e = some (xdN z) → E (.ref CR) (some e) H') :
    Rn c (t_of_sheet K C CR E) (entryK N_of_sheet ds) m (fun _ m' => r = .ok .none m') (fun d m' => r = .ok d m') := by
  obtain ⟨sort, ns, l, rfl, hg, hl, hn, rfl⟩ := h
  have hll := hg.ll
  refine r_seq (r_if (b_test (e_eqI (e_var rfl) e_int)) (fun z => ?_) (fun z => r_next ?_))
  · have z := of_decide_eq_true z
    have e0 : sheetsF m sort ns l = sheetF m l := by unfold sheetsF; rw [if_pos z]
    exact r_retK (r := sheetF m l) hc hm rfl (a_cons (e_var rfl) a_nil) ⟨_, rfl, rfl⟩ (fun d m' e => e0.trans e) (fun z e H' q o he => hE z e H' (e0.trans q) o he)
  have h7 := of_decide_eq_false z
  clear z
  refine r_seq (r_if (b_test (e_eqI (e_var rfl) e_int)) (fun z => ?_) (fun z => r_next ?_))
  · have z := of_decide_eq_true z
    have e0 : sheetsF m sort ns l = Res.ok (dI (toldM m.lines)) m := by unfold sheetsF; rw [if_neg h7, if_pos z]
    exact r_ret (e_call (a_cons (e_lines T hc rfl) a_nil) ⟨_, rfl, by omega, rfl⟩) e0
  have h8 := of_decide_eq_false z
  clear z
  refine r_seq (r_if (b_test (e_eqI (e_var rfl) e_int)) (fun z => ?_) (fun z => r_next ?_))
  · have z := of_decide_eq_true z
    have e0 : sheetsF m sort ns l = changeF m (ns.getD 0 0) (ns.getD 1 0) := by unfold sheetsF; rw [if_neg h7, if_neg h8, if_pos z]
    have hnl : ns.length = 2 := by rw [hn, z] <;> rfl
    exact r_retK (r := changeF m (ns.getD 0 0) (ns.getD 1 0)) hc hm rfl (a_cons (e_ixI (e_var rfl).q e_int (by decide) (by omega)) (a_cons (e_ixI (e_var rfl).q e_int (by decide) (by omega)) a_nil)) ⟨_, _, rfl, hg, rfl⟩ (fun d m' e => e0.trans e) (fun z e H' q o he => hE z e H' (e0.trans q) o he)
  have h9 := of_decide_eq_false z
  clear z
  refine r_seq (r_if (b_test (e_eqI (e_var rfl) e_int)) (fun z => ?_) (fun z => r_next ?_))
  · have z := of_decide_eq_true z
    have e0 : sheetsF m sort ns l = diffF m (ns.getD 0 0) := by unfold sheetsF; rw [if_neg h7, if_neg h8, if_neg h9, if_pos z]
    have hnl : ns.length = 1 := by rw [hn, z] <;> rfl
    exact r_retK (r := diffF m (ns.getD 0 0)) hc hm rfl (a_cons (e_ixI (e_var rfl).q e_int (by decide) (by omega)) a_nil) ⟨_, rfl, hg, rfl⟩ (fun d m' e => e0.trans e) (fun z e H' q o he => hE z e H' (e0.trans q) o he)
  have h10 := of_decide_eq_false z
  clear z
  refine r_seq (r_if (b_test (e_eqI (e_var rfl) e_int)) (fun z => ?_) (fun z => r_next ?_))
  · have z := of_decide_eq_true z
    have e0 : sheetsF m sort ns l = startF m (ns.getD 0 0) := by unfold sheetsF; rw [if_neg h7, if_neg h8, if_neg h9, if_neg h10, if_pos z]
    have hnl : ns.length = 1 := by rw [hn, z] <;> rfl
    exact r_retK (r := startF m (ns.getD 0 0)) hc hm rfl (a_cons (e_ixI (e_var rfl).q e_int (by decide) (by omega)) a_nil) ⟨_, rfl, hg, rfl⟩ (fun d m' e => e0.trans e) (fun z e H' q o he => hE z e H' (e0.trans q) o he)
  have h11 := of_decide_eq_false z
  clear z
  refine r_seq (r_if (b_test (e_eqI (e_var rfl) e_int)) (fun z => ?_) (fun z => r_next ?_))
  · have z := of_decide_eq_true z
    have e0 : sheetsF m sort ns l = Res.ok (dI [(Vbcead.degree m.lines : Int)]) m := by unfold sheetsF; rw [if_neg h7, if_neg h8, if_neg h9, if_neg h10, if_neg h11, if_pos z]
    exact r_ret (n_lst (a_cons (e_call (a_cons (e_lines T hc rfl) a_nil) ⟨_, rfl, by omega, rfl⟩) a_nil) (by show 1 ≤ _; decide)).s e0
  have h12 := of_decide_eq_false z
  clear z
  refine r_seq (r_if (b_test (e_eqI (e_var rfl) e_int)) (fun z => ?_) (fun z => r_next ?_))
  · have z := of_decide_eq_true z
    have e0 : sheetsF m sort ns l = valueF m (ns.getD 0 0) (ns.getD 1 0) := by unfold sheetsF; rw [if_neg h7, if_neg h8, if_neg h9, if_neg h10, if_neg h11, if_neg h12, if_pos z]
    have hnl : ns.length = 2 := by rw [hn, z] <;> rfl
    exact r_retK (r := valueF m (ns.getD 0 0) (ns.getD 1 0)) hc hm rfl (a_cons (e_ixI (e_var rfl).q e_int (by decide) (by omega)) (a_cons (e_ixI (e_var rfl).q e_int (by decide) (by omega)) a_nil)) ⟨_, _, rfl, hg, rfl⟩ (fun d m' e => e0.trans e) (fun z e H' q o he => hE z e H' (e0.trans q) o he)
  have h13 := of_decide_eq_false z
  clear z
  refine r_seq (r_if (b_test (e_eqI (e_var rfl) e_int)) (fun z => ?_) (fun z => r_next ?_))
  · have z := of_decide_eq_true z
    have e0 : sheetsF m sort ns l = cleanF m (ns.getD 0 0) := by unfold sheetsF; rw [if_neg h7, if_neg h8, if_neg h9, if_neg h10, if_neg h11, if_neg h12, if_neg h13, if_pos z]
    have hnl : ns.length = 1 := by rw [hn, z] <;> rfl
    exact r_retK (r := cleanF m (ns.getD 0 0)) hc hm rfl (a_cons (e_ixI (e_var rfl).q e_int (by decide) (by omega)) a_nil) ⟨_, rfl, hg, rfl⟩ (fun d m' e => e0.trans e) (fun z e H' q o he => hE z e H' (e0.trans q) o he)
  have h14 := of_decide_eq_false z
  clear z
  · skip
    have e0 : sheetsF m sort ns l = slipsF m sort ns l := by unfold sheetsF; rw [if_neg h7, if_neg h8, if_neg h9, if_neg h10, if_neg h11, if_neg h12, if_neg h13, if_neg h14]
    exact r_retK (r := slipsF m sort ns l) hc hm rfl (a_cons (e_var rfl) (a_cons (e_var rfl) (a_cons (e_var rfl) a_nil))) ⟨_, _, _, rfl, hg, hl, hn, rfl⟩ (fun d m' e => e0.trans e) (fun z e H' q o he => hE z e H' (e0.trans q) o he)
theorem cal_of_sheet {P : Program} {w : World} {K : PySem.W.Frag} {mg : Str → Option Value} {base : Heap} {C CR : Addr} (T : Tx K mg C CR) : CalX P w K mg base (L2.CX P w) 9 "of_sheet" (spK C CR R_of_sheet) :=
  cal_ofX T.d_of_sheet sc_of_sheet bi_of_sheet (spK_len len_of_sheet) (d_of_sheet T) (pureK_of (run_of_sheet T))

/-! #### of_engine -/
def engineF (m : Dk) (sort : Int) (ns l : List Int) : Res := if sort = 0 then wheelsF m (ns.getD 0 0) else if sort = 1 then setF m l else if sort = 2 then Res.ok (dI ((m.cols.length : Int) :: m.cols)) m else if sort = 3 then crankF m (ns.getD 0 0) else if sort = 4 then backF m (ns.getD 0 0) else if sort = 5 then halfF m (ns.getD 0 0) (ns.getD 1 0) else if sort = 6 then skipF m (ns.getD 0 0) else if sort = 20 then explF m l else if sort = 21 then staggerF m else clearF m
def R_of_engine (m : Dk) (ds : List PyData) (r : Res) : Prop := ∃ (sort : Int) (ns l : List Int), ds = [.int sort, dI ns, dI l] ∧ Good m ∧ l.length ≤ 1000 ∧ ns.length = needs sort ∧ r = engineF m sort ns l
theorem len_of_engine : ∀ m ds r, R_of_engine m ds r → ds.length + 1 = 4 := fun _ _ _ ⟨_, _, _, h, _⟩ => by rw [h] <;> rfl
abbrev s_of_engine : Stmt := top 78
abbrev N_of_engine : List Str := ["desk", "sort", "numbers", "some"]
theorem sc_of_engine : FnScope N_of_engine ["desk", "sort", "numbers", "some"] (defScope s_of_engine) := C8.fnScope_by (by decide +kernel)
theorem bi_of_engine : BindsAt "of_engine" s_of_engine ["desk", "sort", "numbers", "some"] := fun _ _ _ _ _ _ us hl => match us, hl with | [_, _, _, _], _ => rfl
def t_of_engine (K : PySem.W.Frag) (C CR : Addr) (E : XK) : TS :=
  (tSeq (tIfS (tTest (tOp rEq (tVar 1) (tC (.int 0)))) (tRet (tCall (spK C CR R_wheels) [] E (tCons (tVar 0) (tCons (tOp (rIxL K) (tVar 2) (tC (.int 0))) tNil)))) tNext)
    (tSeq (tIfS (tTest (tOp rEq (tVar 1) (tC (.int 1)))) (tRet (tCall (spK C CR R_set_columns) [] E (tCons (tVar 0) (tCons (tVar 3) tNil)))) tNext)
    (tSeq (tIfS (tTest (tOp rEq (tVar 1) (tC (.int 2)))) (tRet (tCall (spK C CR R_columns_told) [] E0 (tCons (tVar 0) tNil))) tNext)
    (tSeq (tIfS (tTest (tOp rEq (tVar 1) (tC (.int 3)))) (tRet (tCall (spK C CR R_crank) [] E (tCons (tVar 0) (tCons (tOp (rIxL K) (tVar 2) (tC (.int 0))) tNil)))) tNext)
    (tSeq (tIfS (tTest (tOp rEq (tVar 1) (tC (.int 4)))) (tRet (tCall (spK C CR R_back) [] E (tCons (tVar 0) (tCons (tOp (rIxL K) (tVar 2) (tC (.int 0))) tNil)))) tNext)
    (tSeq (tIfS (tTest (tOp rEq (tVar 1) (tC (.int 5)))) (tRet (tCall (spK C CR R_half) [] E (tCons (tVar 0) (tCons (tOp (rIxL K) (tVar 2) (tC (.int 0))) (tCons (tOp (rIxL K) (tVar 2) (tC (.int 1))) tNil))))) tNext)
    (tSeq (tIfS (tTest (tOp rEq (tVar 1) (tC (.int 6)))) (tRet (tCall (spK C CR R_skip) [] E (tCons (tVar 0) (tCons (tOp (rIxL K) (tVar 2) (tC (.int 0))) tNil)))) tNext)
    (tSeq (tIfS (tTest (tOp rEq (tVar 1) (tC (.int 20)))) (tRet (tCall (spK C CR R_explain) [] E (tCons (tVar 0) (tCons (tVar 3) tNil)))) tNext)
    (tSeq (tIfS (tTest (tOp rEq (tVar 1) (tC (.int 21)))) (tRet (tCall (spK C CR R_stagger) [] E (tCons (tVar 0) tNil))) tNext)
    (tRet (tCall (spK C CR R_clear) [] E0 (tCons (tVar 0) tNil))))))))))))
theorem d_of_engine {P : Program} {w : World} {K : PySem.W.Frag} {mg : Str → Option Value} {base : Heap} {C CR : Addr} (T : Tx K mg C CR) (f : Addr) (cdv : Value) (A : Around) (outer : List Env) (s : Shared) (H : Hp) (E : XK) (hr : Room 7 (A.deeper (envOfC "of_engine" (defScope s_of_engine) s.heap.objs.size f cdv))) :
    PSs (cxOf (L2.CX P w) P w K mg base N_of_engine "of_engine" (defScope s_of_engine) f cdv A outer s H E) (defBody s_of_engine) (t_of_engine K C CR E) := by
  have hx : Passes (L2.CX P w) (cxOf (L2.CX P w) P w K mg base N_of_engine "of_engine" (defScope s_of_engine) f cdv A outer s H E) E := passes_call (takes_of rfl rfl rfl rfl) (fun _ _ _ _ h => h)
  exact (pss_cons (ps_if (pt_cmpR op_eq (pv 1) pe_int (nomark _)) (pss_one (ps_ret (pe_calX (cal_wheels T) hr (by decide) (by rfl) hx (pa_cons (pv 0) (pa_cons (pe_ix ix_list (pv 2) pe_int (fun _ _ => rfl)) pa_nil))))) pss_nil)
    (pss_cons (ps_if (pt_cmpR op_eq (pv 1) pe_int (nomark _)) (pss_one (ps_ret (pe_calX (cal_set_columns T) hr (by decide) (by rfl) hx (pa_cons (pv 0) (pa_cons (pv 3) pa_nil))))) pss_nil)
    (pss_cons (ps_if (pt_cmpR op_eq (pv 1) pe_int (nomark _)) (pss_one (ps_ret (pe_cal (cal_columns_told T) hr (by decide) (by rfl) (pa_cons (pv 0) pa_nil)))) pss_nil)
    (pss_cons (ps_if (pt_cmpR op_eq (pv 1) pe_int (nomark _)) (pss_one (ps_ret (pe_calX (cal_crank T) hr (by decide) (by rfl) hx (pa_cons (pv 0) (pa_cons (pe_ix ix_list (pv 2) pe_int (fun _ _ => rfl)) pa_nil))))) pss_nil)
    (pss_cons (ps_if (pt_cmpR op_eq (pv 1) pe_int (nomark _)) (pss_one (ps_ret (pe_calX (cal_back T) hr (by decide) (by rfl) hx (pa_cons (pv 0) (pa_cons (pe_ix ix_list (pv 2) pe_int (fun _ _ => rfl)) pa_nil))))) pss_nil)
    (pss_cons (ps_if (pt_cmpR op_eq (pv 1) pe_int (nomark _)) (pss_one (ps_ret (pe_calX (cal_half T) hr (by decide) (by rfl) hx (pa_cons (pv 0) (pa_cons (pe_ix ix_list (pv 2) pe_int (fun _ _ => rfl)) (pa_cons (pe_ix ix_list (pv 2) pe_int (fun _ _ => rfl)) pa_nil)))))) pss_nil)
    (pss_cons (ps_if (pt_cmpR op_eq (pv 1) pe_int (nomark _)) (pss_one (ps_ret (pe_calX (cal_skip T) hr (by decide) (by rfl) hx (pa_cons (pv 0) (pa_cons (pe_ix ix_list (pv 2) pe_int (fun _ _ => rfl)) pa_nil))))) pss_nil)
    (pss_cons (ps_if (pt_cmpR op_eq (pv 1) pe_int (nomark _)) (pss_one (ps_ret (pe_calX (cal_explain T) hr (by decide) (by rfl) hx (pa_cons (pv 0) (pa_cons (pv 3) pa_nil))))) pss_nil)
    (pss_cons (ps_if (pt_cmpR op_eq (pv 1) pe_int (nomark _)) (pss_one (ps_ret (pe_calX (cal_stagger T) hr (by decide) (by rfl) hx (pa_cons (pv 0) pa_nil)))) pss_nil)
    (pss_one (ps_ret (pe_cal (cal_clear T) hr (by decide) (by rfl) (pa_cons (pv 0) pa_nil)))))))))))))
theorem run_of_engine {K : PySem.W.Frag} {mg : Str → Option Value} {C CR : Addr} (T : Tx K mg C CR) (c : Cc) (E : XK) (m : Dk) (ds : List PyData) (r : Res) (hc : c.C = C) (hm : c.mu = true) (h : R_of_engine m ds r) (hE : ∀ z e H', r = .no z → Out c H' m → H' e = some (xdN z) → E (.ref CR) (some e) H') :
    Rn c (t_of_engine K C CR E) (entryK N_of_engine ds) m (fun _ m' => r = .ok .none m') (fun d m' => r = .ok d m') := by
  obtain ⟨sort, ns, l, rfl, hg, hl, hn, rfl⟩ := h
  have hll := hg.ll
  refine r_seq (r_if (b_test (e_eqI (e_var rfl) e_int)) (fun z => ?_) (fun z => r_next ?_))
  · have z := of_decide_eq_true z
    have e0 : engineF m sort ns l = wheelsF m (ns.getD 0 0) := by unfold engineF; rw [if_pos z]
    have hnl : ns.length = 1 := by rw [hn, z] <;> rfl
    exact r_retK (r := wheelsF m (ns.getD 0 0)) hc hm rfl (a_cons (e_ixI (e_var rfl).q e_int (by decide) (by omega)) a_nil) ⟨_, rfl, rfl⟩ (fun d m' e => e0.trans e) (fun z e H' q o he => hE z e H' (e0.trans q) o he)
  have h0 := of_decide_eq_false z
  clear z
  refine r_seq (r_if (b_test (e_eqI (e_var rfl) e_int)) (fun z => ?_) (fun z => r_next ?_))
  · have z := of_decide_eq_true z
    have e0 : engineF m sort ns l = setF m l := by unfold engineF; rw [if_neg h0, if_pos z]
    exact r_retK (r := setF m l) hc hm rfl (a_cons (e_var rfl) a_nil) ⟨_, rfl, hg.pos, rfl⟩ (fun d m' e => e0.trans e) (fun z e H' q o he => hE z e H' (e0.trans q) o he)
  have h1 := of_decide_eq_false z
  clear z
  refine r_seq (r_if (b_test (e_eqI (e_var rfl) e_int)) (fun z => ?_) (fun z => r_next ?_))
  · have z := of_decide_eq_true z
    have e0 : engineF m sort ns l = Res.ok (dI ((m.cols.length : Int) :: m.cols)) m := by unfold engineF; rw [if_neg h0, if_neg h1, if_pos z]
    exact r_retK (r := Res.ok (dI ((m.cols.length : Int) :: m.cols)) m) hc hm rfl a_nil ⟨rfl, by have := hg.cl; omega, rfl⟩ (fun d m' e => e0.trans e) (fun z e H' q => nomatch q)
  have h2 := of_decide_eq_false z
  clear z
  refine r_seq (r_if (b_test (e_eqI (e_var rfl) e_int)) (fun z => ?_) (fun z => r_next ?_))
  · have z := of_decide_eq_true z
    have e0 : engineF m sort ns l = crankF m (ns.getD 0 0) := by unfold engineF; rw [if_neg h0, if_neg h1, if_neg h2, if_pos z]
    have hnl : ns.length = 1 := by rw [hn, z] <;> rfl
    exact r_retK (r := crankF m (ns.getD 0 0)) hc hm rfl (a_cons (e_ixI (e_var rfl).q e_int (by decide) (by omega)) a_nil) ⟨_, rfl, hg, rfl⟩ (fun d m' e => e0.trans e) (fun z e H' q o he => hE z e H' (e0.trans q) o he)
  have h3 := of_decide_eq_false z
  clear z
  refine r_seq (r_if (b_test (e_eqI (e_var rfl) e_int)) (fun z => ?_) (fun z => r_next ?_))
  · have z := of_decide_eq_true z
    have e0 : engineF m sort ns l = backF m (ns.getD 0 0) := by unfold engineF; rw [if_neg h0, if_neg h1, if_neg h2, if_neg h3, if_pos z]
    have hnl : ns.length = 1 := by rw [hn, z] <;> rfl
    exact r_retK (r := backF m (ns.getD 0 0)) hc hm rfl (a_cons (e_ixI (e_var rfl).q e_int (by decide) (by omega)) a_nil) ⟨_, rfl, hg, rfl⟩ (fun d m' e => e0.trans e) (fun z e H' q o he => hE z e H' (e0.trans q) o he)
  have h4 := of_decide_eq_false z
  clear z
  refine r_seq (r_if (b_test (e_eqI (e_var rfl) e_int)) (fun z => ?_) (fun z => r_next ?_))
  · have z := of_decide_eq_true z
    have e0 : engineF m sort ns l = halfF m (ns.getD 0 0) (ns.getD 1 0) := by unfold engineF; rw [if_neg h0, if_neg h1, if_neg h2, if_neg h3, if_neg h4, if_pos z]
    have hnl : ns.length = 2 := by rw [hn, z] <;> rfl
    exact r_retK (r := halfF m (ns.getD 0 0) (ns.getD 1 0)) hc hm rfl (a_cons (e_ixI (e_var rfl).q e_int (by decide) (by omega)) (a_cons (e_ixI (e_var rfl).q e_int (by decide) (by omega)) a_nil)) ⟨_, _, rfl, hg, rfl⟩ (fun d m' e => e0.trans e) (fun z e H' q o he => hE z e H' (e0.trans q) o he)
  have h5 := of_decide_eq_false z
  clear z
  refine r_seq (r_if (b_test (e_eqI (e_var rfl) e_int)) (fun z => ?_) (fun z => r_next ?_))
  · have z := of_decide_eq_true z
    have e0 : engineF m sort ns l = skipF m (ns.getD 0 0) := by unfold engineF; rw [if_neg h0, if_neg h1, if_neg h2, if_neg h3, if_neg h4, if_neg h5, if_pos z]
    have hnl : ns.length = 1 := by rw [hn, z] <;> rfl
    exact r_retK (r := skipF m (ns.getD 0 0)) hc hm rfl (a_cons (e_ixI (e_var rfl).q e_int (by decide) (by omega)) a_nil) ⟨_, rfl, hg, rfl⟩ (fun d m' e => e0.trans e) (fun z e H' q o he => hE z e H' (e0.trans q) o he)
  have h6 := of_decide_eq_false z
  clear z
  refine r_seq (r_if (b_test (e_eqI (e_var rfl) e_int)) (fun z => ?_) (fun z => r_next ?_))
  · have z := of_decide_eq_true z
    have e0 : engineF m sort ns l = explF m l := by unfold engineF; rw [if_neg h0, if_neg h1, if_neg h2, if_neg h3, if_neg h4, if_neg h5, if_neg h6, if_pos z]
    exact r_retK (r := explF m l) hc hm rfl (a_cons (e_var rfl) a_nil) ⟨_, rfl, hg, rfl⟩ (fun d m' e => e0.trans e) (fun z e H' q o he => hE z e H' (e0.trans q) o he)
  have h20 := of_decide_eq_false z
  clear z
  refine r_seq (r_if (b_test (e_eqI (e_var rfl) e_int)) (fun z => ?_) (fun z => r_next ?_))
  · have z := of_decide_eq_true z
    have e0 : engineF m sort ns l = staggerF m := by unfold engineF; rw [if_neg h0, if_neg h1, if_neg h2, if_neg h3, if_neg h4, if_neg h5, if_neg h6, if_neg h20, if_pos z]
    exact r_retK (r := staggerF m) hc hm rfl a_nil ⟨rfl, hg, rfl⟩ (fun d m' e => e0.trans e) (fun z e H' q o he => hE z e H' (e0.trans q) o he)
  have h21 := of_decide_eq_false z
  clear z
  · skip
    have e0 : engineF m sort ns l = clearF m := by unfold engineF; rw [if_neg h0, if_neg h1, if_neg h2, if_neg h3, if_neg h4, if_neg h5, if_neg h6, if_neg h20, if_neg h21]
    exact r_retK (r := clearF m) hc hm rfl a_nil ⟨rfl, rfl⟩ (fun d m' e => e0.trans e) (fun z e H' q => nomatch q)
theorem cal_of_engine {P : Program} {w : World} {K : PySem.W.Frag} {mg : Str → Option Value} {base : Heap} {C CR : Addr} (T : Tx K mg C CR) : CalX P w K mg base (L2.CX P w) 8 "of_engine" (spK C CR R_of_engine) :=
  cal_ofX T.d_of_engine sc_of_engine bi_of_engine (spK_len len_of_engine) (d_of_engine T) (pureK_of (run_of_engine T))

end CE
namespace CE
open PySem PySem.Spec PyProof.Rows L2
open Evl (Ex rLenS rListS sz_of sz_lt)

/-! #### answer -/
/-- whether a call is about the engine -/
def ofEng (sort : Int) : Bool := decide (sort ≤ 6) || [20, 21, 23].contains sort
def askF (m : Dk) (sort : Int) (ns l : List Int) : Res := if ofEng sort = true then engineF m sort ns l else sheetsF m sort ns l
/-- what is answered, and the desk then -/
def ansM (m : Dk) : Res → PyData × Dk
  | .ok d m' => (d, m')
  | .no z => (dI [z], m)
def answerF (m : Dk) (sort : Int) (ns l : List Int) : Res := .ok (ansM m (askF m sort ns l)).1 (ansM m (askF m sort ns l)).2
def R_answer (m : Dk) (ds : List PyData) (r : Res) : Prop := ∃ (sort : Int) (ns l : List Int), ds = [.int sort, dI ns, dI l] ∧ Good m ∧ l.length ≤ 1000 ∧ ns.length = needs sort ∧ r = answerF m sort ns l
theorem len_answer : ∀ m ds r, R_answer m ds r → ds.length + 1 = 4 := fun _ _ _ ⟨_, _, _, h, _⟩ => by rw [h] <;> rfl
abbrev s_answer : Stmt := top 81
abbrev N_answer : List Str := ["desk", "sort", "numbers", "some", "refused"]
theorem sc_answer : FnScope N_answer ["desk", "sort", "numbers", "some"] (defScope s_answer) := C8.fnScope_by (by decide +kernel)
theorem bi_answer : BindsAt "answer" s_answer ["desk", "sort", "numbers", "some"] := fun _ _ _ _ _ _ us hl => match us, hl with | [_, _, _, _], _ => rfl
def a_answer : TA := tCons (tVar 0) (tCons (tVar 1) (tCons (tVar 2) (tCons (tVar 3) tNil)))
def tb_answer (K : PySem.W.Frag) (C CR : Addr) (W : WX) : TS :=
  tSeq (tIfS (tOr (tTest (tOp (rI0 fun i j => .bl (decide (i ≤ j))) (tVar 1) (tC (.int 6)))) (tTest (tOp (rIn K false) (tVar 1) (tTup (tCons (tC (.int 20)) (tCons (tC (.int 21)) (tCons (tC (.int 23)) tNil)))))))
    (tRet (tCallS (spK C CR R_of_engine) (WE W) a_answer)) tNext)
    (tRet (tCallS (spK C CR R_of_sheet) (WE W) a_answer))
def ts_answer (CR : Addr) : Addr → Value → Option Addr → TS := fun a cls d => tRet (tLst (tCons (tXf a cls d CR "number" (tVar 4)) tNil))
def t_answer (K : PySem.W.Frag) (C CR : Addr) : TS := fun D σ H => tb_answer K C CR (wAs K (.ref CR) 4 (ts_answer CR) (fun _ _ _ _ => False) D) D σ H
theorem takes_none {X : Cx} : Takes X (fun _ _ _ _ => False) := fun _ _ x => by
  obtain ⟨a, B, sI, pins', σ', H', cls, d, _, _, _, _, _, _, _, _, q⟩ := x
  exact q.elim
theorem pe_calS {X : Cx} {k j : Nat} {x : Str} {sp : Sp} {p pos : Pos} {e : Expr} {es : List Expr} {t : TA} {W : WX} (c : CalX X.prog X.w X.K X.mg X.base (L2.CX X.prog X.w) k x sp) (hr : Room j X.A) (hk : k ≤ j) (hg : Gl X x) (tk : Takes X W) (ha : PA X (e :: es) t)
    (hdb : (x == ("__debug__" : Str)) = false := by decide) (he : starEach (e :: es) X.env = (false, eval e X.env) :: starEach es X.env := by rfl) (hpl : (PySem.backTo pos (starEach es X.env)).any (·.1) = false := by rfl) :
    PE X (.Call (.Name x p) (e :: es) [] pos) (tCallS sp (WE W) t) := by
  obtain ⟨f, fd, ps, F, hm, kp, b⟩ := c.ex
  exact pe_callS F (hr.mono hk) hg hm kp b (fun σ => passAt tk σ) ha hdb he hpl
theorem d_answer {P : Program} {w : World} {K : PySem.W.Frag} {mg : Str → Option Value} {base : Heap} {C CR : Addr} (T : Tx K mg C CR) (f : Addr) (cdv : Value) (A : Around) (outer : List Env) (s : Shared) (H : Hp) (E : XK) (hr : Room 9 (A.deeper (envOfC "answer" (defScope s_answer) s.heap.objs.size f cdv))) :
    PSs (cxOf CX0 P w K mg base N_answer "answer" (defScope s_answer) f cdv A outer s H E).nox (defBody s_answer) (t_answer K C CR) :=
  pss_one (ps_try_as (i := 4) (tb := tb_answer K C CR) (ts := ts_answer CR) (Wout := fun _ _ _ _ => False) rfl rfl sc_answer.nd rfl rfl ⟨rfl, by decide, Or.inl T.ref.g⟩ takes_none
    (fun W pn xe tk _ => pss_cons (ps_if (PW.pt (pw_or (pt_cmpR op_le (pv 1) pe_int (nomark _)) (pw_or1 (pt_cmpR op_in_seq (pv 1) (pe_tup (pa_cons pe_int (pa_cons pe_int (pa_cons pe_int pa_nil)))) (by rfl)))))
        (pss_one (ps_ret (by exact (pe_calS (cal_of_engine T) hr (by decide) (by rfl) tk (by exact (pa_cons (pv 0) (pa_cons (pv 1) (pa_cons (pv 2) (pa_cons (pv 3) pa_nil))))))))) pss_nil)
      (pss_one (ps_ret (by exact (pe_calS (cal_of_sheet T) hr (by decide) (by rfl) tk (by exact (pa_cons (pv 0) (pa_cons (pv 1) (pa_cons (pv 2) (pa_cons (pv 3) pa_nil))))))))))
    (fun a oe cls d pn hz hf => pss_one (ps_ret (pe_lst (pa_cons (by exact (pe_xf T.ref.xf T.ref.nN hz hf (pv 4))) pa_nil)))))
theorem e_inT {c : Cc} {τ : List SD} {m : Dk} {ta tb : TE} {K : PySem.W.Frag} {x : Int} {l : List Int} (ha : EvS c ta τ m (.int x)) (hb : EvS c tb τ m (.tuple (nI l))) : EvS c (tOp (rIn K false) ta tb) τ m (.bool (l.contains x)) := fun L H σ I Q q =>
  e_two ha hb L H σ I fun v w H2 e h1 h2 => by
    obtain rfl : v = .int x := h1
    obtain ⟨p, xs, rfl, k2, x2⟩ := h2
    obtain rfl : xs = l.map V.int := dmA_ints x2
    exact ⟨p, _, rfl, .inr (.inl (.inl (hid_ex _ _ k2))), rfl, flat_ints l, q _ H2 e (by rw [inV_ints] <;> rfl)⟩
theorem r_retKS {c : Cc} {τ : List SD} {m : Dk} {nx : List SD → Dk → Prop} {rt : PyData → Dk → Prop} {ta : TA} {ds : List PyData} {C CR : Addr} {E : L2.St → XK} {i : Nat} {R : Dk → List PyData → Res → Prop} {r : Res} (hc : c.C = C) (hm : c.mu = true) (hd : τ[i]? = some .desk) (h : EvA c ta τ m ds) (hr : R m ds r) (hok : ∀ d m', r = .ok d m' → rt d m')
    (hE : ∀ z e L σ H', r = .no z → Sl c L H' σ τ m → H' e = some (xdN z) → E σ (.ref CR) (some e) H') :
    Rn c (tRet (tCallS (spK C CR R) E (tCons (tVar i) ta))) τ m nx rt := fun L D σ H I hn hrt => by
  obtain ⟨x, hx, a, ha, rfl⟩ := I.get hd
  refine ⟨_, hx, h L H σ I _ fun vs H1 e1 k1 => ?_⟩
  show spK C CR R (.ref a :: vs) H1 _ (E σ)
  refine ⟨a, m, L, ds, r, atK_of hc ha (I.mono e1) k1, hr, fun d' m'' q v H' fr dk dm => ?_, fun z' q e H' fr dk he => ?_⟩
  · have J := (I.mono e1).after hm ha fr (by rw [hc]; exact dk)
    exact hrt d' m'' v H' (hok d' m'' q) J.out (dm_mono (hid_sub I.lzero) _ _ dm)
  · exact hE z' e L σ H' q ((I.mono e1).after hm ha fr (by rw [hc]; exact dk)) he
theorem run_answer {K : PySem.W.Frag} {mg : Str → Option Value} {C CR : Addr} (T : Tx K mg C CR) (c : Cc) (m : Dk) (ds : List PyData) (r : Res) (hc : c.C = C) (hm : c.mu = true) (h : R_answer m ds r) :
    Rn c (t_answer K C CR) (entryK N_answer ds) m (fun _ m' => r = .ok .none m') (fun d m' => r = .ok d m') := fun L D σ H I hn hrt => by
  obtain ⟨sort, ns, l, rfl, hg, hl, hnl, rfl⟩ := h
  have suite : ∀ z e L σ H', askF m sort ns l = .no z → Sl c L H' σ (entryK N_answer [.int sort, dI ns, dI l]) m → H' e = some (xdN z) → WE (wAs K (.ref CR) 4 (ts_answer CR) (fun _ _ _ _ => False) D) σ (.ref CR) (some e) H' := fun z e L σ H' hz J he => by
    refine ⟨true, T.ref.te, fun _ a0 na => ?_, fun q => Bool.noConfusion q⟩
    have hlen : σ.length = 5 := J.len
    refine ⟨.ref a0, List.getElem?_set_self (by rw [hlen]; decide), rfl, rfl, e, _, .int z, rfl, he, lk_here, (by show 1 ≤ sizeLine; decide), fun p hp => ?_⟩
    have J2 := J.mono (Evl.Ex.new (o := .lst [.int z]) hp)
    refine hrt (dI [z]) m _ _ ?_ J2.out ⟨p, _, rfl, ?_, _, _, rfl, rfl, rfl⟩
    · show answerF m sort ns l = _
      unfold answerF
      rw [hz] <;> rfl
    · rw [hid_at (fun z => J.new hp (J.lzero p z))]
      exact upd_same
  have okF : ∀ d m', askF m sort ns l = .ok d m' → answerF m sort ns l = .ok d m' := fun d m' e => by
    unfold answerF
    rw [e] <;> rfl
  have args : EvA c (tCons (tVar 1) (tCons (tVar 2) (tCons (tVar 3) tNil))) (entryK N_answer [.int sort, dI ns, dI l]) m [.int sort, dI ns, dI l] := a_cons (e_var rfl) (a_cons (e_var rfl) (a_cons (e_var rfl) a_nil))
  refine (r_seq (r_if (b_or (b_test (e_C0 (e_var rfl) e_int)) (fun _ => b_test (e_inT (l := [20, 21, 23]) (e_var rfl) (e_tup (a_cons e_int (a_cons e_int (a_cons e_int a_nil))) (by decide))))) (fun h => ?_) (fun h => r_next ?_)) : Rn c (tb_answer K C CR (wAs K (.ref CR) 4 (ts_answer CR) (fun _ _ _ _ => False) D)) (entryK N_answer [.int sort, dI ns, dI l]) m _ _) L D σ H I hn hrt
  · have e : askF m sort ns l = engineF m sort ns l := if_pos h
    rw [e] at suite okF
    exact r_retKS hc hm rfl args ⟨sort, ns, l, rfl, hg, hl, hnl, rfl⟩ okF suite
  · have e : askF m sort ns l = sheetsF m sort ns l := if_neg (by rw [show ofEng sort = false from h]; decide)
    rw [e] at suite okF
    exact r_retKS hc hm rfl args ⟨sort, ns, l, rfl, hg, hl, hnl, rfl⟩ okF suite
theorem cal_answer {P : Program} {w : World} {K : PySem.W.Frag} {mg : Str → Option Value} {base : Heap} {C CR : Addr} (T : Tx K mg C CR) : CalX P w K mg base CX0 10 "answer" (spK C CR R_answer) :=
  cal_of T.d_answer sc_answer bi_answer (spK_len len_answer) (d_answer T) (fun vs H Q E h => pureK_of (t := fun _ => t_answer K C CR) (fun c E m ds r hc hm h _ => run_answer T c m ds r hc hm h) vs H Q E h)

end CE
namespace CE
open PySem PySem.Spec PyProof.Rows L2
open Evl (Ex rLenS rListS sz_of sz_lt)

/-! #### Desk.__init__ -/
def spDk (C : Addr) : Sp := fun vs H Q _ => ∃ a dx, vs = [.ref a] ∧ H a = some (.ins C dx []) ∧ ∀ H' pc pl, (∀ b o, b ≠ a → H b = some o → H' b = some o) → H' a = some (.ins C dx (dkF ⟨10 ^ 20, [], []⟩ pc pl)) → H pc = none → H pl = none → H' pc = some (.lst []) → H' pl = some (.lst []) → Q .non H'
abbrev s_dinit : Stmt := inClass (top 45) 0
theorem sc_dinit : FnScope ["self"] ["self"] (defScope s_dinit) := C8.fnScope_by (by decide +kernel)
def t_dinit (K : PySem.W.Frag) : TS := tSeq (sFld K (tVar 0) (tOp (rI CPow fun i j => .int (i ^ j.toNat)) (tC (.int 10)) (tC (.int 20))) "size") (tSeq (sFld K (tVar 0) (tLst tNil) "columns") (sFld K (tVar 0) (tLst tNil) "lines"))
theorem pow20 : (10 : Int) ^ (20 : Int).toNat = 10 ^ 20 := rfl
theorem pure_dinit {K : PySem.W.Frag} {mg : Str → Option Value} {C CR : Addr} (T : Tx K mg C CR) (vs : List V) (H : Hp) (Q : VK) (E : XK) (h : spDk C vs H Q E) : t_dinit K { nx := fun _ H' => Q .non H', rt := Q } (L2.start ["self"] vs) H := by
  obtain ⟨a, dx, rfl, ha, k⟩ := h
  refine ⟨10, 20, rfl, rfl, ⟨by decide, by decide, by decide⟩, _, rfl, a, C, dx, _, rfl, ha, T.cl, T.n_size, (by decide), ?_⟩
  refine ⟨(by show 0 ≤ sizeLine; decide), fun pc hpc => ⟨_, rfl, a, C, dx, [(("size" : Str), V.int (10 ^ 20))], rfl, ?_, T.cl, T.n_columns, (by show 1 < 1000; decide), ?_⟩⟩
  · have hne : a ≠ pc := fun z => by subst z; rw [upd_same] at hpc; cases hpc
    rw [upd_ne hne]
    exact upd_same
  have hne : pc ≠ a := fun z => by subst z; rw [upd_same] at hpc; cases hpc
  have hpc0 : H pc = none := by rw [upd_ne hne] at hpc; exact hpc
  refine ⟨(by show 0 ≤ sizeLine; decide), fun pl hpl => ⟨_, rfl, a, C, dx, [(("size" : Str), V.int (10 ^ 20)), (("columns" : Str), V.ref pc)], rfl, ?_, T.cl, T.n_lines, (by show 2 < 1000; decide), ?_⟩⟩
  · have hne : a ≠ pl := fun z => by subst z; rw [upd_same] at hpl; cases hpl
    rw [upd_ne hne]
    exact upd_same
  have hnl : pl ≠ a := fun z => by subst z; rw [upd_same] at hpl; cases hpl
  have hnc : pl ≠ pc := fun z => by subst z; rw [upd_ne hnl, upd_same] at hpl; cases hpl
  have hpl0 : H pl = none := by rw [upd_ne hnl, upd_ne hnc, upd_ne hnl] at hpl; exact hpl
  refine k _ pc pl (fun b o hb q => ?_) upd_same hpc0 hpl0 ?_ ?_
  · have h1 : b ≠ pl := fun z => by subst z; rw [q] at hpl0; cases hpl0
    have h2 : b ≠ pc := fun z => by subst z; rw [q] at hpc0; cases hpc0
    rw [upd_ne hb, upd_ne h1, upd_ne hb, upd_ne h2, upd_ne hb]
    exact q
  · rw [upd_ne hne, upd_ne (Ne.symm hnc), upd_ne hne]
    exact upd_same
  · rw [upd_ne hnl]
    exact upd_same
theorem ok_dinit {P : Program} {w : World} {K : PySem.W.Frag} {mg : Str → Option Value} {base : Heap} {C CR : Addr} {f : Addr} {fd : FuncData} (F : L2.Fun K "__init__" "Desk.__init__" s_dinit f fd) (T : Tx K mg C CR) : FnOk P w K mg base CX0 1 f fd ["self"] (spDk C) := by
  refine F.ok sc_dinit (fun vs H Q E h => ?_) (fun cdv A outer s H vs Q E hr h => ⟨t_dinit K, ?_, pure_dinit T vs H Q E h⟩)
  · obtain ⟨a, dx, rfl, _⟩ := h
    rfl
  · exact pss_cons (ps_fld (pv 0) (pe_op op_pow pe_int pe_int) rfl) (pss_cons (ps_fld (pv 0) (pe_lst pa_nil) rfl) (pss_one (ps_fld (pv 0) (pe_lst pa_nil) rfl)))
theorem bi_dinit {K : PySem.W.Frag} {f : Addr} {fd : FuncData} (F : L2.Fun K "__init__" "Desk.__init__" s_dinit f fd) : Binds K fd ["self"] [] := F.binds fun _ _ _ _ _ _ us hl => match us, hl with | [_], _ => rfl
/-! #### the calls, out of the numbers -/
def NUMS : List Int := [1, 0, 0, 1, 1, 2, 1, 0, 0, 2, 1, 1, 0, 2, 1, 1, 1, 1, 0, 1, 0, 0, 0, 0]
def WLS : List Int := [1, 7, 18, 20, 22]
theorem shape_in {p : Int} {x : Nat × Nat} (h : PyVbcead.shape p = some x) : 0 ≤ p ∧ p < 24 := by
  by_cases q : 0 ≤ p ∧ p < 24
  · exact q
  · unfold PyVbcead.shape at h
    repeat rw [if_neg (by omega)] at h
    cases h
theorem shape_all : ∀ i : Fin 24, PyVbcead.shape (i.val : Int) = some ((NUMS.getD i.val 0).toNat, if WLS.contains (i.val : Int) = true then 1 else 0) := by decide
theorem nums_nn : ∀ i : Fin 24, ((NUMS.getD i.val 0).toNat : Int) = NUMS.getD i.val 0 := by decide
theorem needs_all : ∀ i : Fin 24, needs (i.val : Int) = (NUMS.getD i.val 0).toNat := by decide
theorem shape_is {p : Int} {n k : Nat} (h : PyVbcead.shape p = some (n, k)) : (n : Int) = NUMS.getD p.toNat 0 ∧ k = (if WLS.contains p = true then 1 else 0) ∧ needs p = n ∧ 0 ≤ p ∧ p < 24 := by
  obtain ⟨h0, h1⟩ := shape_in h
  have e : ((p.toNat : Nat) : Int) = p := by omega
  have a := shape_all ⟨p.toNat, by omega⟩
  have b := nums_nn ⟨p.toNat, by omega⟩
  have c := needs_all ⟨p.toNat, by omega⟩
  rw [show (((⟨p.toNat, by omega⟩ : Fin 24).val : Nat) : Int) = p from e] at a c
  rw [h] at a
  cases a
  exact ⟨b, rfl, c, h0, h1⟩
/-- one call at the head of some numbers -/
theorem calls_cons {f : Nat} {p : Int} {r : List Int} {raw : List (List (List Int))} (h : PyFlat.calls PyVbcead.shape f (p :: r) = some raw) : ∃ (g n k : Nat) (rows : List (List Int)) (t : List Int) (raw' : List (List (List Int))), PyVbcead.shape p = some (n, k) ∧ n ≤ r.length ∧ PyFlat.rows k (r.drop n) = some (rows, t) ∧ raw = ((p :: r.take n) :: rows) :: raw' ∧ PyFlat.calls PyVbcead.shape g t = some raw' := by
  cases f with
  | zero => cases h
  | succ g =>
    unfold PyFlat.calls at h
    cases hc : PyFlat.call PyVbcead.shape (p :: r) with
    | none => rw [hc] at h; cases h
    | some ct =>
      obtain ⟨c, t⟩ := ct
      rw [hc] at h
      have h : (match PyFlat.calls PyVbcead.shape g t with | none => none | some cs => some (c :: cs)) = some raw := h
      cases hg : PyFlat.calls PyVbcead.shape g t with
      | none => rw [hg] at h; cases h
      | some cs =>
        rw [hg] at h
        obtain rfl := Option.some.inj h
        have hc : (match PyVbcead.shape p with
          | none => none
          | some (n, k) => if r.length < n then none else match PyFlat.rows k (r.drop n) with
            | none => none
            | some (xs, t) => some ((p :: r.take n) :: xs, t)) = some (c, t) := hc
        cases hs : PyVbcead.shape p with
        | none => rw [hs] at hc; cases hc
        | some nk =>
          obtain ⟨n, k⟩ := nk
          rw [hs] at hc
          have hc : (if r.length < n then none else match PyFlat.rows k (r.drop n) with | none => none | some (xs, t) => some ((p :: r.take n) :: xs, t)) = some (c, t) := hc
          by_cases hn : r.length < n
          · rw [if_pos hn] at hc; cases hc
          · rw [if_neg hn] at hc
            cases hr : PyFlat.rows k (r.drop n) with
            | none => rw [hr] at hc; cases hc
            | some xt =>
              obtain ⟨xs, t'⟩ := xt
              rw [hr] at hc
              have hc := Option.some.inj hc
              cases hc
              exact ⟨g, n, k, xs, t, cs, rfl, by omega, hr, rfl, hg⟩
theorem rows_none {q : List Int} {rows : List (List Int)} {t : List Int} (h : PyFlat.rows 0 q = some (rows, t)) : rows = [] ∧ t = q := by
  have h := Option.some.inj h
  cases h
  exact ⟨rfl, rfl⟩
theorem rows_one {q : List Int} {rows : List (List Int)} {t : List Int} (h : PyFlat.rows 1 q = some (rows, t)) : ∃ (z : Nat) (r : List Int), q = (z : Int) :: r ∧ z ≤ r.length ∧ rows = [r.take z] ∧ t = r.drop z := by
  unfold PyFlat.rows at h
  cases q with
  | nil => cases h
  | cons z r =>
    have er : PyFlat.row (z :: r) = if 0 ≤ z ∧ z.toNat ≤ r.length then some (r.take z.toNat, r.drop z.toNat) else none := rfl
    rw [er] at h
    by_cases hz : 0 ≤ z ∧ z.toNat ≤ r.length
    · rw [if_pos hz] at h
      have h := Option.some.inj h
      cases h
      exact ⟨z.toNat, r, by rw [Int.toNat_of_nonneg hz.1], hz.2, rfl, rfl⟩
    · rw [if_neg hz] at h; cases h
/-! #### answers -/
/-- a desk stands for a state -/
structure Rep (s : Vbcead.State) (m : Dk) : Prop where
  size : m.size = ((10 ^ s.wheels : Nat) : Int)
  cols : m.cols = s.columns.map fun (n : Nat) => (n : Int)
  lines : m.lines = s.sheet
/-- a call's answer, and the desk then, are the specification's -/
def CallLaw : Prop := ∀ (s : Vbcead.State) (m : Dk) (sort : Int) (ns : List Int) (rows : List (List Int)), Rep s m → Good m → PyVbcead.shape sort = some (ns.length, rows.length) → (∀ r ∈ rows, r.length ≤ 60) →
  ∃ (one : List Int) (m' : Dk), ansM m (askF m sort ns (rows.headD [])) = (dI one, m') ∧ (Vbcead.step s (PyVbcead.whole ((sort :: ns) :: rows))).2 = one ∧ Rep (Vbcead.step s (PyVbcead.whole ((sort :: ns) :: rows))).1 m' ∧ Good m'
def told_all (raw : List (List (List Int))) (s : Vbcead.State) : List Int := PyFlat.told (PyFlat.played VbceadNeutral.step s (raw.map PyVbcead.whole))
theorem told_cons (c : List (List Int)) (raw : List (List (List Int))) (s : Vbcead.State) : told_all (c :: raw) s = (((Vbcead.step s (PyVbcead.whole c)).2.length : Int) :: (Vbcead.step s (PyVbcead.whole c)).2) ++ told_all raw (Vbcead.step s (PyVbcead.whole c)).1 := by
  unfold told_all PyFlat.told
  rw [List.map_cons]
  show List.flatMap _ (_ :: _) = _
  rw [List.flatMap_cons] <;> rfl
structure AnsI (C : Addr) (ns total : List Int) (H0 : Hp) (dk fo : Addr) (at_ : Nat) (H : Hp) : Prop where
  ex : Ex H0 H
  nd : H0 dk = none
  nf : H0 fo = none
  ne : dk ≠ fo
  le : at_ ≤ ns.length
  go : ∃ raw s m out f, PyFlat.calls PyVbcead.shape f (ns.drop at_) = some raw ∧ (∀ c ∈ raw, ∀ r ∈ c.tail, r.length ≤ 60) ∧ Rep s m ∧ Good m ∧ out ++ told_all raw s = total ∧ DkAt C [dk, fo] H dk m ∧ H fo = some (.lst (out.map V.int))
def spAns (K : PySem.W.Frag) : Sp := fun vs H Q _ => ∃ (a : Addr) (ns : List Int) (raw : List (List (List Int))), vs = [.ref a] ∧ SqL K H a (ns.map V.int) ∧ PyFlat.calls PyVbcead.shape ns.length ns = some raw ∧ (∀ c ∈ raw, ∀ r ∈ c.tail, r.length ≤ 60) ∧ (told_all raw Vbcead.start).length ≤ 10000000 ∧
  ∀ (H' : Hp) (p : Addr), H' p = some (.lst ((told_all raw Vbcead.start).map V.int)) → Q (.ref p) H'
abbrev s_answers : Stmt := top 85
abbrev N_answers : List Str := ["calls", "desk", "found", "at", "sort", "behind", "numbers", "some", "one"]
theorem sc_answers : FnScope N_answers ["calls"] (defScope s_answers) := C8.fnScope_by (by decide +kernel)
def tb_answers (K : PySem.W.Frag) (C CR aN aW : Addr) : TS := (tSeq (tAsg (tOp (rIxL K) (tVar 0) (tVar 3)) (gName 4))
    (tSeq (tAsg (tOp (rI0 fun i j => .int (i + j)) (tOp (rI0 fun i j => .int (i + j)) (tVar 3) (tC (.int 1))) (tOp (rIxT K) (tC (.ref aN)) (tVar 4))) (gName 5))
    (tSeq (tAsg (tSl (rSlL K) (tVar 0) (tPart (tOp (rI0 fun i j => .int (i + j)) (tVar 3) (tC (.int 1)))) (tPart (tVar 5))) (gName 6))
    (tSeq (tAsg (tLst tNil) (gName 7))
    (tSeq (tIfS (tTest (tOp (rIn K false) (tVar 4) (tC (.ref aW)))) (tSeq (tAsg (tSl (rSlL K) (tVar 0) (tPart (tOp (rI0 fun i j => .int (i + j)) (tVar 5) (tC (.int 1)))) (tPart (tOp (rI0 fun i j => .int (i + j)) (tOp (rI0 fun i j => .int (i + j)) (tVar 5) (tC (.int 1))) (tOp (rIxL K) (tVar 0) (tVar 5))))) (gName 7))
    (tAug 5 (tOp (rI0 fun i j => .int (i + j)) (tC (.int 1)) (tOp (rIxL K) (tVar 0) (tVar 5))) (ipI fun i j => i + j))) tNext)
    (tSeq (tAsg (tCall (spK C CR R_answer) [] E0 (tCons (tVar 1) (tCons (tVar 4) (tCons (tVar 6) (tCons (tVar 7) tNil))))) (gName 8))
    (tSeq (tDrop (tBM K "list" rAppend (tVar 2) (tCons (tCB (rLenS K) (tCons (tVar 8) tNil)) tNil)))
    (tSeq (tDrop (tBM K "list" rExtend (tVar 2) (tCons (tVar 8) tNil)))
    (tAsg (tVar 5) (gName 3))))))))))
def t_answers (K : PySem.W.Frag) (C CR aN aW : Addr) : TS := (tSeq (tAsg (tMake C (spDk C) [] E0 tNil) (gName 1))
    (tSeq (tAsg (tLst tNil) (gName 2))
    (tSeq (tAsg (tC (.int 0)) (gName 3))
    (tSeq (tWhile (tTest (tOp (rI0 fun i j => .bl (decide (i < j))) (tVar 3) (tCB (rLenS K) (tCons (tVar 0) tNil)))) (tb_answers K C CR aN aW))
    (tRet (tVar 2))))))
theorem atI_at {ns : List Int} {i : Nat} {z : Int} (h : ns[i]? = some z) : atI (ns.map V.int) (i : Int) = some (.int z) := by
  have hi := (List.getElem?_eq_some_iff.mp h).1
  unfold atI ixN
  rw [if_pos (by omega), List.length_map, if_pos (by omega)]
  show (List.map V.int ns)[(i : Int).toNat]? = _
  rw [List.getElem?_map, Int.toNat_natCast, h] <;> rfl
theorem cutV_at {ns : List Int} {i j : Nat} (hj : j ≤ ns.length) (hi : i ≤ j) : cutV (ns.map V.int) (some (i : Int)) (some (j : Int)) = ((ns.drop i).take (j - i)).map V.int := by
  unfold cutV
  rw [HT.sIx_nat, HT.sIx_nat, List.length_map, show min i ns.length = i by omega, show min j ns.length = j by omega, List.map_take, List.map_drop]
theorem drop_get {ns : List Int} {i : Nat} {z : Int} {r : List Int} (h : ns.drop i = z :: r) : ns[i]? = some z ∧ r = ns.drop (i + 1) ∧ i < ns.length := by
  have hi : i < ns.length := by
    rcases Nat.lt_or_ge i ns.length with q | q
    · exact q
    · rw [List.drop_eq_nil_of_le q] at h; cases h
  rw [List.drop_eq_getElem_cons hi] at h
  cases h
  exact ⟨List.getElem?_eq_getElem hi, rfl, hi⟩

end CE
namespace CE
open PySem PySem.Spec PyProof.Rows L2
open Evl (Ex rLenS rListS sz_of sz_lt)

theorem if_true_of {b : Bool} {p q : Prop} (h : b = true) (k : p) : if b = true then p else q := by rw [if_pos h]; exact k
theorem if_false_of {b : Bool} {p q : Prop} (h : b = false) (k : q) : if b = true then p else q := by rw [if_neg (by rw [h]; decide)]; exact k
theorem stand {H : Hp} {p : Addr} {o : HO} (h : H p = none) : ∀ b u, H b = some u → upd H p o b = some u := Evl.Ex.new h
theorem turn_answers {K : PySem.W.Frag} {C CR aN aW : Addr} (law : CallLaw) (hN : ∀ H, SqT K H aN (NUMS.map V.int)) (hW : ∀ H, SqT K H aW (WLS.map V.int)) {D : Ends} {ns total : List Int} {H0 H : Hp} {a dk fo : Addr} {at_ : Nat} {x4 x5 x6 x7 x8 : Option V}
    (hS : SqL K H0 a (ns.map V.int)) (hT : total.length ≤ 10000000) (I : AnsI C ns total H0 dk fo at_ H) (hlt : at_ < ns.length)
    (k : ∀ at' H' y4 y5 y6 y7 y8, at_ < at' → AnsI C ns total H0 dk fo at' H' → D.nx [some (.ref a), some (.ref dk), some (.ref fo), some (.int (at' : Nat)), y4, y5, y6, y7, y8] H') :
    tb_answers K C CR aN aW D [some (.ref a), some (.ref dk), some (.ref fo), some (.int (at_ : Nat)), x4, x5, x6, x7, x8] H := by
  obtain ⟨raw, s, m, out, f, hraw, h60, rep, good, htot, hdk, hfo⟩ := I.go
  have hdrop : ns.drop at_ = ns[at_] :: ns.drop (at_ + 1) := List.drop_eq_getElem_cons hlt
  have hp0 : ns[at_]? = some ns[at_] := List.getElem?_eq_getElem hlt
  generalize ns[at_] = p at hdrop hp0
  rw [hdrop] at hraw
  obtain ⟨g, n, kk, rows, t, raw', hsh, hn, hrows, rfl, hraw'⟩ := calls_cons hraw
  obtain ⟨en, ek, hneed, hp1, hp2⟩ := shape_is hsh
  rw [List.length_drop] at hn
  have hL : ∀ {H'}, Ex H0 H' → SqL K H' a (ns.map V.int) := fun e => Evl.ex_l e hS
  -- the heap's own names
  have hdkA : ∃ o, H dk = some o := by obtain ⟨dx, pc, pl, q, _⟩ := hdk; exact ⟨_, q⟩
  have hpn : atI (NUMS.map V.int) p = some (.int (n : Int)) := by
    have e : (p.toNat : Int) = p := by omega
    rw [← e]
    refine atI_at ?_
    have hl : p.toNat < NUMS.length := by show p.toNat < 24; omega
    rw [List.getElem?_eq_getElem hl, en, List.getD_eq_getElem?_getD, List.getElem?_eq_getElem hl] <;> rfl
  -- sort = calls[at]
  refine ⟨_, rfl, _, rfl, a, _, (at_ : Int), .int p, rfl, rfl, hL I.ex, atI_at hp0, ?_⟩
  -- behind = at + 1 + NUMBERS[sort]
  refine ⟨_, rfl, (at_ : Int), 1, rfl, rfl, _, rfl, aN, _, p, .int (n : Int), rfl, rfl, hN H, hpn, (at_ : Int) + 1, (n : Int), rfl, rfl, ?_⟩
  -- numbers = calls[at + 1:behind]
  refine ⟨_, rfl, _, rfl, (at_ : Int), 1, rfl, rfl, (at_ : Int) + 1, rfl, _, rfl, (at_ : Int) + 1 + (n : Int), rfl, a, _, rfl, hL I.ex, fun pn hpn' => ?_⟩
  have ecut : cutV (ns.map V.int) (some ((at_ : Int) + 1)) (some ((at_ : Int) + 1 + (n : Int))) = ((ns.drop (at_ + 1)).take n).map V.int := by
    have := cutV_at (ns := ns) (i := at_ + 1) (j := at_ + 1 + n) (by omega) (by omega)
    rw [show at_ + 1 + n - (at_ + 1) = n by omega] at this
    rw [← this]
    congr 2
  rw [ecut]
  -- some = []
  refine ⟨(by show 0 ≤ sizeLine; decide), fun p0 hp0' => ?_⟩
  have x1 : Ex H (upd H pn (.lst (((ns.drop (at_ + 1)).take n).map V.int))) := Evl.Ex.new hpn'
  have x2 : Ex H (upd (upd H pn (.lst (((ns.drop (at_ + 1)).take n).map V.int))) p0 (.lst [])) := x1.trans (Evl.Ex.new hp0')
  have hpnA : upd (upd H pn (.lst (((ns.drop (at_ + 1)).take n).map V.int))) p0 (.lst []) pn = some (.lst (((ns.drop (at_ + 1)).take n).map V.int)) := Evl.Ex.new hp0' _ _ upd_same
  have hp0A : upd (upd H pn (.lst (((ns.drop (at_ + 1)).take n).map V.int))) p0 (.lst []) p0 = some (.lst []) := upd_same
  have pn_dk : pn ≠ dk := fun z => by obtain ⟨o, q⟩ := hdkA; rw [← z, hpn'] at q; cases q
  have pn_fo : pn ≠ fo := fun z => by rw [← z, hpn'] at hfo; cases hfo
  have p0_dk : p0 ≠ dk := fun z => by obtain ⟨o, q⟩ := hdkA; rw [← z] at q; rw [x1 _ _ q] at hp0'; cases hp0'
  have p0_fo : p0 ≠ fo := fun z => by rw [← z] at hfo; rw [x1 _ _ hfo] at hp0'; cases hp0'
  generalize upd (upd H pn (.lst (((ns.drop (at_ + 1)).take n).map V.int))) p0 (.lst []) = H2 at x2 hpnA hp0A ⊢
  -- what is left of the turn
  have rest : ∀ (H3 : Hp) (ps : Addr) (beh : Nat) (y5 : V), Ex H2 H3 → H3 ps = some (.lst ((rows.headD []).map V.int)) → ps ≠ dk → ps ≠ fo → y5 = .int (beh : Int) → at_ < beh → beh ≤ ns.length → t = ns.drop beh →
      (tSeq (tAsg (tCall (spK C CR R_answer) [] E0 (tCons (tVar 1) (tCons (tVar 4) (tCons (tVar 6) (tCons (tVar 7) tNil))))) (gName 8))
        (tSeq (tDrop (tBM K "list" rAppend (tVar 2) (tCons (tCB (rLenS K) (tCons (tVar 8) tNil)) tNil)))
        (tSeq (tDrop (tBM K "list" rExtend (tVar 2) (tCons (tVar 8) tNil)))
        (tAsg (tVar 5) (gName 3))))) D [some (.ref a), some (.ref dk), some (.ref fo), some (.int (at_ : Nat)), some (.int p), some y5, some (.ref pn), some (.ref ps), x8] H3 := by
    intro H3 ps beh y5 x3 hps ps_dk ps_fo hy5 hb1 hb2 ht
    have xx : Ex H H3 := x2.trans x3
    have hlen : ns.length - (at_ + 1) ≥ n := by omega
    have hnsl : ((ns.drop (at_ + 1)).take n).length = n := by rw [List.length_take, List.length_drop]; omega
    have hrl : rows.length = kk := by
      rw [ek] at hrows ⊢
      by_cases hw : WLS.contains p = true
      · rw [if_pos hw] at hrows ⊢
        obtain ⟨z, r, _, _, e, _⟩ := rows_one hrows
        rw [e] <;> rfl
      · rw [if_neg hw] at hrows ⊢
        rw [(rows_none hrows).1] <;> rfl
    have h60' : ∀ r ∈ rows, r.length ≤ 60 := h60 _ List.mem_cons_self
    have hhd : (rows.headD []).length ≤ 60 := by
      cases rows with
      | nil => exact Nat.zero_le _
      | cons r rs => exact h60' r List.mem_cons_self
    obtain ⟨one, m', e1, e2, rep', good'⟩ := law s m p ((ns.drop (at_ + 1)).take n) rows rep good (by rw [hnsl, hrl]; exact hsh) h60'
    have nh : ∀ {q : Addr}, q ≠ dk → q ≠ fo → q ∉ [dk, fo] := fun h1 h2 => by simp [h1, h2]
    refine ⟨_, rfl, _, rfl, _, rfl, _, rfl, ?_⟩
    show spK C CR R_answer [.ref dk, .int p, .ref pn, .ref ps] H3 _ E0
    refine ⟨dk, m, [dk, fo], [.int p, dI ((ns.drop (at_ + 1)).take n), dI (rows.headD [])], answerF m p ((ns.drop (at_ + 1)).take n) (rows.headD []), ⟨⟨_, rfl, ⟨_, _, rfl, rfl, _, _, rfl, ⟨pn, _, rfl, ?_, dmA_ofInts _⟩, _, _, rfl, ⟨ps, _, rfl, ?_, dmA_ofInts _⟩, rfl⟩⟩, by simp, ?_, hdk.mono xx⟩, ⟨p, _, _, rfl, good, by omega, by rw [hnsl]; exact hneed.symm, rfl⟩, fun d md hd v H4 fr dk4 dm => ?_, (fun z q => nomatch q)⟩
    · rw [hid_at (nh pn_dk pn_fo)]
      exact x3 _ _ hpnA
    · rw [hid_at (nh ps_dk ps_fo)]
      exact hps
    · intro b hb
      simp only [List.mem_cons, List.not_mem_nil, or_false] at hb
      rcases hb with rfl | rfl
      · obtain ⟨o, q⟩ := hdkA
        exact ⟨o, xx _ _ q⟩
      · exact ⟨_, xx _ _ hfo⟩
    · unfold answerF at hd
      rw [e1] at hd
      have hd1 : dI one = d := by injection hd
      have hd2 : m' = md := by injection hd
      subst hd1
      subst hd2
      obtain ⟨po, zs, rfl, hpo, hzs⟩ := dm
      obtain rfl : zs = one.map V.int := dmA_ints hzs
      obtain ⟨npo, hpo⟩ := hid_some hpo
      have hfo4 : H4 fo = some (.lst (out.map V.int)) := fr _ _ (Ne.symm I.ne) (xx _ _ hfo)
      have po_fo : po ≠ fo := fun z => npo (by simp [z])
      rw [told_cons, e2] at htot
      have htl : out.length + (1 + one.length) ≤ 10000000 := by
        rw [← htot, List.length_append, List.length_append, List.length_cons] at hT
        omega
      have hsz : sizeLine = 16777216 := sizeLine_eq
      -- found.append(len(one))
      refine ⟨_, rfl, .inl ⟨rfl, _, .inl (.inl hfo4)⟩, _, rfl, po, _, rfl, .inl (.inl (.inl hpo)), fo, _, _, rfl, rfl, hfo4, by rw [List.length_map]; omega, ?_⟩
      -- found.extend(one)
      refine ⟨_, rfl, .inl ⟨rfl, _, .inl (.inl upd_same)⟩, _, rfl, fo, po, _, _, rfl, rfl, upd_same, by rw [upd_ne po_fo]; exact hpo, by rw [List.length_append, List.length_map, List.length_map]; show out.length + 1 + one.length ≤ _; omega, ?_⟩
      -- at = behind
      refine ⟨_, rfl, ?_⟩
      subst hy5
      refine k beh _ _ _ _ _ _ hb1 ⟨?_, I.nd, I.nf, I.ne, hb2, raw', _, _, out ++ ((one.length : Int) :: one), g, by rw [← ht]; exact hraw', fun c hc => h60 c (List.mem_cons_of_mem _ hc), rep', good', ?_, ?_, ?_⟩
      · refine Evl.Ex.mut (Evl.Ex.mut (fun b o q => ?_) I.nf) I.nf
        exact fr b o (fun z => by rw [z, I.nd] at q; cases q) (xx _ _ (I.ex _ _ q))
      · rw [List.append_assoc]
        exact htot
      · obtain ⟨dx, pc, pl, q1, q2, q3⟩ := dk4
        exact ⟨dx, pc, pl, by rw [upd_ne I.ne, upd_ne I.ne]; exact q1, by rw [hid_upd (by simp), hid_upd (by simp)]; exact q2, by rw [hid_upd (by simp), hid_upd (by simp)]; exact q3⟩
      · rw [upd_same, List.map_append, List.map_cons, List.append_assoc]
        rw [List.length_map] <;> rfl
  -- if sort in WITH_LIST
  refine ⟨_, rfl, aW, _, rfl, .inr (hW H2), rfl, flat_ints WLS, _, rfl, ?_⟩
  have einW : inV (.int p) (WLS.map V.int) = WLS.contains p := inV_ints p WLS
  show (if (inV (.int p) (WLS.map V.int)) = true then _ else _)
  rw [einW]
  by_cases hw : WLS.contains p = true
  · rw [if_pos hw]
    rw [ek, if_pos hw] at hrows
    obtain ⟨z, r, hq, hz, hr1, ht⟩ := rows_one hrows
    rw [List.drop_drop] at hq
    obtain ⟨hq1, hq2, hq3⟩ := drop_get hq
    subst hq2
    rw [List.length_drop] at hz
    have iN : (at_ : Int) + 1 + (n : Int) = ((at_ + 1 + n : Nat) : Int) := by omega
    have at1 : atI (ns.map V.int) ((at_ : Int) + 1 + (n : Int)) = some (.int (z : Int)) := by rw [iN]; exact atI_at hq1
    -- some = calls[behind + 1:behind + 1 + calls[behind]]
    refine ⟨_, rfl, _, rfl, (at_ : Int) + 1 + (n : Int), 1, rfl, rfl, _, rfl, _, rfl, (at_ : Int) + 1 + (n : Int), 1, rfl, rfl, _, rfl, _, rfl, a, _, (at_ : Int) + 1 + (n : Int), .int (z : Int), rfl, rfl, hL (I.ex.trans x2), at1, _, _, rfl, rfl, _, rfl, a, _, rfl, hL (I.ex.trans x2), fun p1 hp1' => ?_⟩
    have ecut : cutV (ns.map V.int) (some ((at_ : Int) + 1 + (n : Int) + 1)) (some ((at_ : Int) + 1 + (n : Int) + 1 + (z : Int))) = ((ns.drop (at_ + 1 + n + 1)).take z).map V.int := by
      have := cutV_at (ns := ns) (i := at_ + 1 + n + 1) (j := at_ + 1 + n + 1 + z) (by omega) (by omega)
      rw [show at_ + 1 + n + 1 + z - (at_ + 1 + n + 1) = z by omega] at this
      rw [← this]
      congr 2
    rw [ecut]
    have x3 : Ex H2 (upd H2 p1 (.lst (((ns.drop (at_ + 1 + n + 1)).take z).map V.int))) := Evl.Ex.new hp1'
    -- behind += 1 + calls[behind]
    refine ⟨_, rfl, _, rfl, _, rfl, a, _, (at_ : Int) + 1 + (n : Int), .int (z : Int), rfl, rfl, hL ((I.ex.trans x2).trans x3), at1, 1, (z : Int), rfl, rfl, (at_ : Int) + 1 + (n : Int), 1 + (z : Int), rfl, rfl, ?_⟩
    refine rest _ p1 (at_ + 1 + n + 1 + z) _ x3 (by rw [hr1]; exact upd_same) (fun q => ?_) (fun q => ?_) (by show V.int _ = V.int _; congr 1; show (at_ : Int) + 1 + (n : Int) + (1 + (z : Int)) = _; omega) (by omega) (by omega) (by rw [ht, List.drop_drop])
    · obtain ⟨o, q'⟩ := hdkA
      rw [← q] at q'
      rw [x2 _ _ q'] at hp1'
      cases hp1'
    · rw [← q] at hfo
      rw [x2 _ _ hfo] at hp1'
      cases hp1'
  · rw [if_neg hw]
    rw [ek, if_neg hw] at hrows
    obtain ⟨hr1, ht⟩ := rows_none hrows
    refine rest _ p0 (at_ + 1 + n) _ (Ex.refl _) (by rw [hr1]; exact hp0A) p0_dk p0_fo (by congr 1) (by omega) (by omega) (by rw [ht, List.drop_drop])
theorem pure_answers {K : PySem.W.Frag} {C CR aN aW : Addr} (law : CallLaw) (hN : ∀ H, SqT K H aN (NUMS.map V.int)) (hW : ∀ H, SqT K H aW (WLS.map V.int)) (vs : List V) (H : Hp) (Q : VK) (E : XK) (h : spAns K vs H Q E) : t_answers K C CR aN aW { nx := fun _ H' => Q .non H', rt := Q } (L2.start N_answers vs) H := by
  obtain ⟨a, ns, raw, rfl, hS, hraw, h60, hT, kf⟩ := h
  refine fun dk dx hdk hdx hne => ⟨dk, dx, rfl, upd_same, fun H1 pc pl fr hd npc npl hpc hpl => ⟨rfl, ?_⟩⟩
  have ndx : dk ≠ dx := Ne.symm hne
  have ex1 : Ex H H1 := fun b o q => fr b o (fun z => by rw [z, hdk] at q; cases q) (by
    rw [upd_ne (fun z => by rw [z, hdk] at q; cases q), upd_ne (fun z => by rw [z, hdx] at q; cases q)]
    exact q)
  have pc_dk : pc ≠ dk := fun z => by rw [z, hd] at hpc; cases hpc
  have pl_dk : pl ≠ dk := fun z => by rw [z, hd] at hpl; cases hpl
  refine ⟨(by show 0 ≤ sizeLine; decide), fun fo hfo => ?_⟩
  have nf0 : H fo = none := Evl.fresh_back ex1 hfo
  have hne2 : dk ≠ fo := fun z => by rw [← z, hd] at hfo; cases hfo
  have pc_fo : pc ≠ fo := fun z => by rw [← z, hpc] at hfo; cases hfo
  have pl_fo : pl ≠ fo := fun z => by rw [← z, hpl] at hfo; cases hfo
  have ex2 : Ex H1 (upd H1 fo (.lst [])) := Evl.Ex.new hfo
  have inv0 : AnsI C ns (told_all raw Vbcead.start) H dk fo 0 (upd H1 fo (.lst [])) := by
    refine ⟨ex1.trans ex2, hdk, nf0, hne2, Nat.zero_le _, raw, Vbcead.start, ⟨10 ^ 20, [], []⟩, [], ns.length, hraw, h60, ⟨rfl, rfl, rfl⟩, ⟨by decide, by decide, by decide, (fun a h => nomatch h), by decide, (fun a h => nomatch h)⟩, rfl, ⟨dx, pc, pl, ex2 _ _ hd, ⟨pc, [], rfl, ?_, rfl⟩, ⟨pl, [], rfl, ?_, rfl⟩⟩, upd_same⟩
    · rw [hid_at (by simp [pc_dk, pc_fo])]
      exact ex2 _ _ hpc
    · rw [hid_at (by simp [pl_dk, pl_fo])]
      exact ex2 _ _ hpl
  refine ⟨fun j σ H' => ∃ (at_ : Nat) (x4 x5 x6 x7 x8 : Option V), σ = [some (.ref a), some (.ref dk), some (.ref fo), some (.int (at_ : Nat)), x4, x5, x6, x7, x8] ∧ j = ns.length - at_ ∧ AnsI C ns (told_all raw Vbcead.start) H dk fo at_ H', ⟨ns.length - 0, 0, _, _, _, _, _, rfl, rfl, inv0⟩, ?_⟩
  rintro j σ H' ⟨at_, x4, x5, x6, x7, x8, rfl, rfl, I⟩
  refine ⟨_, rfl, _, rfl, a, _, rfl, .inl (Evl.ex_l I.ex hS), (at_ : Int), _, rfl, rfl, _, rfl, ?_⟩
  by_cases hlt : at_ < ns.length
  · refine if_true_of (decide_eq_true (by rw [List.length_map]; omega)) ?_
    refine ⟨fun σ' H'' => ∃ (at' : Nat) (x4 x5 x6 x7 x8 : Option V), σ' = [some (.ref a), some (.ref dk), some (.ref fo), some (.int (at' : Nat)), x4, x5, x6, x7, x8] ∧ at_ < at' ∧ AnsI C ns (told_all raw Vbcead.start) H dk fo at' H'', fun σ' H'' ⟨at', y4, y5, y6, y7, y8, e, hl, I'⟩ => ⟨ns.length - at', by have := I'.le; omega, at', y4, y5, y6, y7, y8, e, rfl, I'⟩, ?_⟩
    exact turn_answers law hN hW hS hT I hlt fun at' H'' y4 y5 y6 y7 y8 hl I' => ⟨at', y4, y5, y6, y7, y8, rfl, hl, I'⟩
  · refine if_false_of (decide_eq_false (by rw [List.length_map]; omega)) ?_
    refine ⟨_, rfl, ?_⟩
    obtain ⟨raw', s, m, out, f, hr, _, _, _, htot, _, hfo'⟩ := I.go
    rw [List.drop_eq_nil_of_le (by omega)] at hr
    have hr : some [] = some raw' := by
      cases f with
      | zero => exact hr
      | succ f => exact hr
    obtain rfl := Option.some.inj hr
    refine kf _ _ ?_
    rw [hfo', ← htot]
    show _ = some (HO.lst (List.map V.int (out ++ [])))
    rw [List.append_nil]
/-- what the top has written of the two tables -/
structure TxA (K : PySem.W.Frag) (mg : Str → Option Value) : Prop where
  num : ∃ a, mg "NUMBERS" = some (.ref a) ∧ ∀ H, SqT K H a (NUMS.map V.int)
  wl : ∃ a, mg "WITH_LIST" = some (.ref a) ∧ ∀ H, SqT K H a (WLS.map V.int)
theorem ok_answers {P : Program} {w : World} {K : PySem.W.Frag} {mg : Str → Option Value} {base : Heap} {C CR f : Addr} {fd : FuncData} (law : CallLaw) (F : L2.Fun K "answers" "answers" s_answers f fd) (T : Tx K mg C CR) (TA : TxA K mg) : FnOk P w K mg base CX0 11 f fd ["calls"] (spAns K) := by
  obtain ⟨aN, hN, sN⟩ := TA.num
  obtain ⟨aW, hW, sW⟩ := TA.wl
  obtain ⟨fI, fdI, M, Fi⟩ := T.dsk.init
  refine F.ok sc_answers (fun vs H Q E h => ?_) (fun cdv A outer s H vs Q E hr h => ⟨t_answers K C CR aN aW, ?_, pure_answers law sN sW vs H Q E h⟩)
  · obtain ⟨a, ns, raw, rfl, _⟩ := h
    rfl
  · have hr2 : Room 2 _ := hr.mono (by decide)
    exact (pss_cons (ps_set (i := 1) sc_answers.nd rfl (Or.inl rfl) (pe_make0 M (ok_dinit Fi T) hr2 (by rfl) T.dsk.g (bi_dinit Fi) .nil pass0))
    (pss_cons (ps_set (i := 2) sc_answers.nd rfl (Or.inl rfl) (pe_lst pa_nil))
    (pss_cons (ps_set (i := 3) sc_answers.nd rfl (Or.inl rfl) pe_int)
    (pss_cons (ps_while PassesOwn.never (pt_cmpR op_lt (pv 3) (pe_callB call_len_seq (by rfl) T.b_len PySem.boot_len (pa_cons (pv 0) pa_nil)) (nomark _)) (pss_cons (ps_set (i := 4) sc_answers.nd rfl (Or.inl rfl) (pe_ix ix_list (pv 0) (pv 3) (fun _ _ => rfl)))
    (pss_cons (ps_set (i := 5) sc_answers.nd rfl (Or.inl rfl) (pe_op op_add (pe_op op_add (pv 3) pe_int) (pe_ix ix_tup (pe_glob (by rfl) hN rfl) (pv 4) (fun _ _ => rfl))))
    (pss_cons (ps_set (i := 6) sc_answers.nd rfl (Or.inl rfl) (pe_slice sl_list (pv 0) (po_some (pe_op op_add (pv 3) pe_int)) (po_some (pv 5))))
    (pss_cons (ps_set (i := 7) sc_answers.nd rfl (Or.inl rfl) (pe_lst pa_nil))
    (pss_cons (ps_if (pt_cmpR op_in_seq (pv 4) (pe_glob (by rfl) hW rfl) (by rfl)) (pss_cons (ps_set (i := 7) sc_answers.nd rfl (Or.inl rfl) (pe_slice sl_list (pv 0) (po_some (pe_op op_add (pv 5) pe_int)) (po_some (pe_op op_add (pe_op op_add (pv 5) pe_int) (pe_ix ix_list (pv 0) (pv 5) (fun _ _ => rfl))))))
    (pss_one (ps_aug (i := 5) sc_answers.nd rfl (Or.inl rfl) (pe_op op_add pe_int (pe_ix ix_list (pv 0) (pv 5) (fun _ _ => rfl))) ip_add))) pss_nil)
    (pss_cons (ps_set (i := 8) sc_answers.nd rfl (Or.inl rfl) (pe_cal (cal_answer T) hr (by decide) (by rfl) (pa_cons (pv 1) (pa_cons (pv 4) (pa_cons (pv 6) (pa_cons (pv 7) pa_nil))))))
    (pss_cons (ps_expr (pe_bm PySem.F.plainAttrs_list PySem.F.slot_list_append PySem.F.type_list_append mt_append (pv 2) (pa_cons (pe_callB call_len_seq (by rfl) T.b_len PySem.boot_len (pa_cons (pv 8) pa_nil)) pa_nil)))
    (pss_cons (ps_expr (pe_bm PySem.F.plainAttrs_list PySem.F.slot_list_extend PySem.F.type_list_extend mt_extend (pv 2) (pa_cons (pv 8) pa_nil)))
    (pss_one (ps_set (i := 3) sc_answers.nd rfl (Or.inl rfl) (pv 5))))))))))))
    (pss_one (ps_ret (pv 2)))))))

end CE
namespace CE
open VbceCore
/-! ### The plain law: what is answered, of the engine -/
def Ans (m : Dk) (r : Res) (x : Vbcead.State × List Int) : Prop := ∃ (one : List Int) (m' : Dk), ansM m r = (dI one, m') ∧ x.2 = one ∧ Rep x.1 m' ∧ Good m'
section
variable {s : Vbcead.State} {m : Dk} {r : Res} {x : Vbcead.State × List Int}
theorem ans_no {z : Int} (rep : Rep s m) (good : Good m) (h : r = .no z) (hx : x = (s, [z])) : Ans m r x := by
  subst h hx
  exact ⟨[z], m, rfl, rfl, rep, good⟩
theorem ans_same {l : List Int} (rep : Rep s m) (good : Good m) (h : r = .ok (dI l) m) (hx : x = (s, l)) : Ans m r x := by
  subst h hx
  exact ⟨l, m, rfl, rfl, rep, good⟩
theorem ans_ok {l : List Int} {m' : Dk} {s' : Vbcead.State} (h : r = .ok (dI l) m') (hx : x = (s', l)) (rep : Rep s' m') (good : Good m') : Ans m r x := by
  subst h hx
  exact ⟨l, m', rfl, rfl, rep, good⟩
theorem step_no {c : List (List Int)} {d : Vbcead.Call} (h : Vbcead.decode c = some d) (q : Vbcead.inRange s d = false) : Vbcead.step s c = (s, [-1]) := by
  unfold Vbcead.step
  rw [h]
  exact if_pos q
theorem step_ok {c : List (List Int)} {d : Vbcead.Call} (h : Vbcead.decode c = some d) (q : Vbcead.inRange s d = true) : Vbcead.step s c = Vbcead.act s d := by
  unfold Vbcead.step
  rw [h]
  exact if_neg (by rw [q]; decide)
theorem btw {n lo hi : Int} : isBetween n lo hi = true ↔ lo ≤ n ∧ n ≤ hi := by
  unfold isBetween
  rw [Bool.and_eq_true, decide_eq_true_eq, decide_eq_true_eq]
theorem btwN {n lo hi : Int} (h : ¬ (lo ≤ n ∧ n ≤ hi)) : isBetween n lo hi = false := by
  cases e : isBetween n lo hi with
  | false => rfl
  | true => exact absurd (btw.mp e) h
theorem startOk_iff {l : List Int} : StartOk l ↔ (decide (1 ≤ l.length) && Vbcead.isList 7 l) = true := by
  unfold StartOk Vbcead.isList
  rw [Bool.and_eq_true, Bool.and_eq_true, decide_eq_true_eq, decide_eq_true_eq]
theorem Rep.len (rep : Rep s m) : m.cols.length = s.columns.length := by rw [rep.cols, List.length_map]
theorem Rep.nil (rep : Rep s m) : m.cols = [] ↔ s.columns.isEmpty = true := by
  rw [rep.cols, List.isEmpty_iff, List.map_eq_nil_iff]
theorem Rep.sz (rep : Rep s m) : m.size = (Vbcead.size_ s.wheels : Int) := rep.size
end
/-! #### numbers and columns -/
abbrev iN (l : List Nat) : List Int := l.map fun (n : Nat) => (n : Int)
theorem iN_getD (l : List Nat) (j : Nat) : (iN l).getD j 0 = ((l.getD j 0 : Nat) : Int) := by
  rw [List.getD_eq_getElem?_getD, List.getD_eq_getElem?_getD, List.getElem?_map]
  cases l[j]? <;> rfl
theorem list_of {α : Type} {l : List α} {d : α} {n : Nat} {f : Nat → α} (hl : l.length = n) (h : ∀ j, j < n → f j = l.getD j d) : (List.range n).map f = l := by
  refine List.ext_getElem? fun j => ?_
  rw [List.getElem?_map]
  by_cases hj : j < n
  · rw [List.getElem?_range hj, Option.map_some, h j hj, List.getD_eq_getElem?_getD, List.getElem?_eq_getElem (by omega)] <;> rfl
  · rw [List.getElem?_eq_none (by rw [List.length_range]; omega), List.getElem?_eq_none (by omega)] <;> rfl
theorem size_pos (w : Nat) : 0 < Vbcead.size_ w := Nat.pow_pos (by decide)
theorem signed_is (w n : Nat) : signedM (n : Int) (Vbcead.size_ w : Int) = Vbcead.signed w n := by
  unfold signedM Vbcead.signed
  by_cases h : 2 * n < Vbcead.size_ w
  · rw [if_pos h, if_pos (by omega)]
  · rw [if_neg h, if_neg (by omega)]
theorem cranked_len (w : Nat) : ∀ l : List Nat, (Vbcead.cranked w l).length = l.length
  | [] => rfl
  | [_] => rfl
  | a :: b :: l => by
    show (Vbcead.cranked w (b :: l)).length + 1 = _
    rw [cranked_len w (b :: l)] <;> rfl
theorem cranked_at (w : Nat) : ∀ (l : List Nat) (j : Nat), j < l.length → (Vbcead.cranked w l).getD j 0 = if j + 1 < l.length then (l.getD j 0 + l.getD (j + 1) 0) % Vbcead.size_ w else l.getD j 0
  | [], j, h => absurd h (Nat.not_lt_zero _)
  | [a], j, h => by
    have : j = 0 := by simp at h; omega
    subst this
    rfl
  | a :: b :: l, 0, h => by
    rw [if_pos (by simp)]
    rfl
  | a :: b :: l, j + 1, h => by
    have ih := cranked_at w (b :: l) j (by simpa using h)
    show (Vbcead.cranked w (b :: l)).getD j 0 = if j + 1 + 1 < (b :: l).length + 1 then ((b :: l).getD j 0 + (b :: l).getD (j + 1) 0) % _ else (b :: l).getD j 0
    rw [ih]
    by_cases q : j + 1 < (b :: l).length
    · rw [if_pos q, if_pos (by omega)]
    · rw [if_neg q, if_neg (by omega)]
theorem turned_is (w : Nat) (l : List Nat) : turnedM (iN l) (Vbcead.size_ w : Int) (-1) = iN (Vbcead.cranked w l) := by
  unfold turnedM turnedTo
  rw [List.length_map]
  refine list_of (d := 0) (by rw [List.length_map, cranked_len]) fun j hj => ?_
  rw [iN_getD, iN_getD, iN_getD, cranked_at w l j hj]
  by_cases q : j + 1 < l.length
  · rw [if_pos q, if_pos ⟨by omega, by omega⟩, Int.natCast_emod, Int.natCast_add]
  · rw [if_neg q, if_neg (by omega)]
theorem skipping_len (w j : Nat) (l : List Nat) : (Vbcead.skipping w j l).length = l.length := by
  unfold Vbcead.skipping
  rw [List.length_set, cranked_len]
theorem skipped_is (w : Nat) (l : List Nat) (k : Nat) : turnedM (iN l) (Vbcead.size_ w : Int) (k : Int) = iN (Vbcead.skipping w k l) := by
  unfold turnedM turnedTo
  rw [List.length_map]
  refine list_of (d := 0) (by rw [List.length_map, skipping_len]) fun j hj => ?_
  rw [iN_getD, iN_getD, iN_getD]
  unfold Vbcead.skipping
  by_cases e : j = k
  · subst e
    rw [if_neg (by omega), List.getD_eq_getElem?_getD (l := List.set _ _ _), List.getElem?_set_self (by rw [cranked_len]; exact hj)] <;> rfl
  · rw [List.getD_eq_getElem?_getD (l := List.set _ _ _), List.getElem?_set_ne (Ne.symm e), ← List.getD_eq_getElem?_getD, cranked_at w l j hj]
    by_cases q : j + 1 < l.length
    · rw [if_pos q, if_pos ⟨by omega, by omega⟩, Int.natCast_emod, Int.natCast_add]
    · rw [if_neg q, if_neg (by omega)]
def Below (w : Nat) (l : List Nat) : Prop := ∀ a ∈ l, a < Vbcead.size_ w
theorem cranked_below {w : Nat} : ∀ {l : List Nat}, Below w l → Below w (Vbcead.cranked w l)
  | [], h => h
  | [_], h => h
  | a :: b :: l, h => by
    intro c hc
    rcases List.mem_cons.mp (show c ∈ (a + b) % Vbcead.size_ w :: Vbcead.cranked w (b :: l) from hc) with rfl | hc
    · exact Nat.mod_lt _ (size_pos w)
    · exact cranked_below (fun z hz => h z (List.mem_cons_of_mem _ hz)) c hc
theorem getD_memN {l : List Nat} {j : Nat} (h : j < l.length) : l.getD j 0 ∈ l := by
  rw [List.getD_eq_getElem?_getD, List.getElem?_eq_getElem h]
  exact List.getElem_mem h
theorem skipping_below {w j : Nat} {l : List Nat} (h : Below w l) (hj : j < l.length) : Below w (Vbcead.skipping w j l) := fun c hc => by
  unfold Vbcead.skipping at hc
  rcases List.mem_or_eq_of_mem_set hc with hc | rfl
  · exact cranked_below h c hc
  · exact h _ (getD_memN hj)
theorem back_is {w : Nat} : ∀ {l : List Nat}, Below w l → backM (Vbcead.size_ w : Int) (iN l) = iN (Vbcead.cranked_back w l) ∧ Below w (Vbcead.cranked_back w l) ∧ (Vbcead.cranked_back w l).length = l.length
  | [], h => ⟨rfl, h, rfl⟩
  | [_], h => ⟨rfl, h, rfl⟩
  | a :: b :: l, h => by
    obtain ⟨ih1, ih2, ih3⟩ := back_is (l := b :: l) (fun z hz => h z (List.mem_cons_of_mem _ hz))
    have ha := h a List.mem_cons_self
    cases e : Vbcead.cranked_back w (b :: l) with
    | nil => rw [e] at ih3; cases ih3
    | cons c r =>
      have es : Vbcead.cranked_back w (a :: b :: l) = (a + (Vbcead.size_ w - c)) % Vbcead.size_ w :: c :: r := by
        show (match Vbcead.cranked_back w (b :: l) with
          | [] => [a]
          | b :: m => (a + (Vbcead.size_ w - b)) % Vbcead.size_ w :: b :: m) = _
        rw [e]
      have hc : c < Vbcead.size_ w := ih2 c (by rw [e]; exact List.mem_cons_self)
      rw [e] at ih1 ih2 ih3
      refine ⟨?_, ?_, ?_⟩
      · show ((a : Int) - (backM (Vbcead.size_ w : Int) (iN (b :: l))).getD 0 0) % (Vbcead.size_ w : Int) :: backM (Vbcead.size_ w : Int) (iN (b :: l)) = _
        rw [ih1, es]
        show ((a : Int) - (c : Int)) % (Vbcead.size_ w : Int) :: iN (c :: r) = (((a + (Vbcead.size_ w - c)) % Vbcead.size_ w : Nat) : Int) :: iN (c :: r)
        congr 1
        rw [Int.natCast_emod, Int.natCast_add, Int.natCast_sub (by omega), show (a : Int) + ((Vbcead.size_ w : Int) - (c : Int)) = (a : Int) - (c : Int) + (Vbcead.size_ w : Int) by omega, Int.add_emod_right]
      · rw [es]
        intro z hz
        rcases List.mem_cons.mp hz with rfl | hz
        · exact Nat.mod_lt _ (size_pos w)
        · exact ih2 z hz
      · rw [es, List.length_cons, ih3] <;> rfl
theorem halfFrom_len (w : Nat) : ∀ (l : List Nat) (e : Bool), (Vbcead.halfFrom w e l).length = l.length
  | [], _ => rfl
  | [_], _ => rfl
  | a :: b :: l, e => by
    show (Vbcead.halfFrom w (!e) (b :: l)).length + 1 = _
    rw [halfFrom_len w (b :: l)] <;> rfl
theorem halfFrom_at (w : Nat) : ∀ (l : List Nat) (e : Bool) (j : Nat), j < l.length → (Vbcead.halfFrom w e l).getD j 0 = if j + 1 < l.length ∧ (decide (j % 2 = 0) = e) then (l.getD j 0 + l.getD (j + 1) 0) % Vbcead.size_ w else l.getD j 0
  | [], _, j, h => absurd h (Nat.not_lt_zero _)
  | [a], e, j, h => by
    have : j = 0 := by simp at h; omega
    subst this
    rw [if_neg (by simp)]
    rfl
  | a :: b :: l, e, 0, h => by
    show (if e = true then (a + b) % Vbcead.size_ w else a) = _
    cases e with
    | true => rw [if_pos rfl, if_pos ⟨by simp, rfl⟩]; rfl
    | false => rw [if_neg (by decide), if_neg (by simp)]; rfl
  | a :: b :: l, e, j + 1, h => by
    have ih := halfFrom_at w (b :: l) (!e) j (by simpa using h)
    show (Vbcead.halfFrom w (!e) (b :: l)).getD j 0 = if j + 1 + 1 < (b :: l).length + 1 ∧ (decide ((j + 1) % 2 = 0) = e) then ((b :: l).getD j 0 + (b :: l).getD (j + 1) 0) % _ else (b :: l).getD j 0
    rw [ih]
    have par : (decide (j % 2 = 0) = !e) ↔ (decide ((j + 1) % 2 = 0) = e) := by
      cases e <;> simp <;> omega
    by_cases q : j + 1 < (b :: l).length ∧ (decide (j % 2 = 0) = !e)
    · rw [if_pos q, if_pos ⟨by omega, par.mp q.2⟩]
    · rw [if_neg q, if_neg fun z => q ⟨by omega, par.mpr z.2⟩]
theorem half_is (w : Nat) (l : List Nat) (k : Nat) (hk : k ≤ 1) : halfM (iN l) (Vbcead.size_ w : Int) k = iN (Vbcead.half w ((k : Int) == 1) l) := by
  unfold halfM halfTo Vbcead.half
  rw [List.length_map]
  refine list_of (d := 0) (by rw [List.length_map, halfFrom_len]) fun j hj => ?_
  rw [iN_getD, iN_getD, iN_getD, halfFrom_at w l _ j hj]
  have par : (j < k + 2 * ((l.length - k) / 2) ∧ j % 2 = k % 2 ∧ k ≤ j) ↔ (j + 1 < l.length ∧ (decide (j % 2 = 0) = !((k : Int) == 1))) := by
    rcases (by omega : k = 0 ∨ k = 1) with rfl | rfl
    · simp
      omega
    · simp
      omega
  by_cases q : j + 1 < l.length ∧ (decide (j % 2 = 0) = !((k : Int) == 1))
  · rw [if_pos q, if_pos (par.mpr q), Int.natCast_emod, Int.natCast_add]
  · rw [if_neg q, if_neg fun z => q (par.mp z)]
theorem halfFrom_below {w : Nat} : ∀ {l : List Nat} {e : Bool}, Below w l → Below w (Vbcead.halfFrom w e l)
  | [], _, h => h
  | [_], _, h => h
  | a :: b :: l, e, h => by
    intro c hc
    rcases List.mem_cons.mp (show c ∈ (if e = true then (a + b) % Vbcead.size_ w else a) :: Vbcead.halfFrom w (!e) (b :: l) from hc) with rfl | hc
    · split
      · exact Nat.mod_lt _ (size_pos w)
      · exact h a List.mem_cons_self
    · exact halfFrom_below (fun z hz => h z (List.mem_cons_of_mem _ hz)) c hc
end CE
namespace CE
open VbceCore
section
variable {s : Vbcead.State} {m : Dk}
theorem Good.below (good : Good m) (rep : Rep s m) : Below s.wheels s.columns := fun a ha => by
  have := good.cb (a : Int) (by rw [rep.cols]; exact List.mem_map.mpr ⟨a, ha, rfl⟩)
  rw [rep.sz] at this
  omega
theorem cb_of {w : Nat} {l : List Nat} (h : Below w l) : ∀ a ∈ iN l, 0 ≤ a ∧ a < (Vbcead.size_ w : Int) := fun a ha => by
  obtain ⟨n, hn, rfl⟩ := List.mem_map.mp ha
  have := h n hn
  exact ⟨by omega, by omega⟩
/-- new columns -/
theorem good_cols (good : Good m) (rep : Rep s m) {l : List Nat} (hl : l.length = s.columns.length) (hb : Below s.wheels l) : Good { m with cols := iN l } where
  pos := good.pos
  top := good.top
  cl := by
    have := good.cl
    rw [rep.len] at this
    show (iN l).length ≤ 7
    rw [List.length_map]
    omega
  cb := by
    show ∀ a ∈ iN l, 0 ≤ a ∧ a < m.size
    rw [rep.sz]
    exact cb_of hb
  ll := good.ll
  lb := good.lb
theorem rep_cols (rep : Rep s m) (l : List Nat) : Rep { s with columns := l } { m with cols := iN l } := ⟨rep.size, rfl, rep.lines⟩
theorem signed_lt {w n : Nat} (h : n < Vbcead.size_ w) (hw : (Vbcead.size_ w : Int) ≤ 10 ^ 30) : (Vbcead.signed w n).natAbs < 2 ^ 110 := by
  have e : (2 : Nat) ^ 110 = 1298074214633706907132624082305024 := by decide
  have e2 : (10 : Int) ^ 30 = 1000000000000000000000000000000 := by decide
  rw [e]
  rw [e2] at hw
  unfold Vbcead.signed
  split <;> omega
theorem good_lines (good : Good m) {l : List Int} (hl : l.length ≤ 60) (hb : ∀ a ∈ l, a.natAbs < 2 ^ 110) : Good { m with lines := l } := ⟨good.pos, good.top, good.cl, good.cb, hl, hb⟩
theorem great_110 {z : Int} (h : Vbcead.isGreat z = true) : z.natAbs < 2 ^ 110 := by
  have := (great_iff z).mp h
  have e : (2 : Nat) ^ 110 = 1298074214633706907132624082305024 := by decide
  rw [e]
  omega
/-! #### the calls about the engine -/
theorem law_wheels (rep : Rep s m) (good : Good m) (w : Int) : Ans m (wheelsF m w) (Vbcead.step s [[0, w]]) := by
  by_cases h : 1 ≤ w ∧ w ≤ 30
  · refine ans_ok (if_pos h) (step_ok (s := s) (c := [[0, w]]) (d := .wheels w) rfl (btw.mpr h)) ⟨?_, rfl, rfl⟩ ⟨?_, ?_, by show 0 ≤ 7; decide, (fun a q => nomatch q), by show 0 ≤ 60; decide, (fun a q => nomatch q)⟩
    · show (10 : Int) ^ w.toNat = ((10 ^ w.toNat : Nat) : Int)
      rw [Int.natCast_pow] <;> rfl
    · exact Int.pow_pos (by decide)
    · show (10 : Int) ^ w.toNat ≤ 10 ^ 30
      have h1 : (10 : Nat) ^ w.toNat ≤ 10 ^ 30 := Nat.pow_le_pow_right (by decide) (by omega)
      have e1 : ((10 ^ w.toNat : Nat) : Int) = (10 : Int) ^ w.toNat := by rw [Int.natCast_pow] <;> rfl
      have e2 : ((10 ^ 30 : Nat) : Int) = (10 : Int) ^ 30 := by decide
      rw [← e1, ← e2]
      exact Int.ofNat_le.mpr h1
  · exact ans_no rep good (if_neg h) (step_no rfl (btwN h))
theorem shown_is (w : Nat) (l : List Int) : (l.map fun z => z % (Vbcead.size_ w : Int)) = iN (l.map (Vbcead.shown w)) := by
  show _ = List.map _ (List.map _ _)
  rw [List.map_map]
  refine List.map_congr_left fun z _ => ?_
  show z % _ = ((Vbcead.shown w z : Nat) : Int)
  unfold Vbcead.shown
  rw [Int.toNat_of_nonneg (Int.emod_nonneg _ (by have := size_pos w; omega))]
theorem shown_below (w : Nat) (l : List Int) : Below w (l.map (Vbcead.shown w)) := fun a ha => by
  obtain ⟨z, _, rfl⟩ := List.mem_map.mp ha
  unfold Vbcead.shown
  have h1 := Int.emod_nonneg z (b := (Vbcead.size_ w : Int)) (by have := size_pos w; omega)
  have h2 := Int.emod_lt_of_pos z (b := (Vbcead.size_ w : Int)) (by have := size_pos w; omega)
  omega
theorem law_set (rep : Rep s m) (good : Good m) (l : List Int) : Ans m (setF m l) (Vbcead.step s [[1], l]) := by
  by_cases h : StartOk l
  · refine ans_ok (m' := { m with cols := iN (l.map (Vbcead.shown s.wheels)) }) ?_ (step_ok rfl (startOk_iff.mp h)) (rep_cols rep _) ⟨good.pos, good.top, ?_, ?_, good.ll, good.lb⟩
    · unfold setF
      rw [if_pos h, rep.sz, shown_is]
    · show (iN _).length ≤ 7
      rw [List.length_map, List.length_map]
      exact h.2.1
    · show ∀ a ∈ iN _, 0 ≤ a ∧ a < m.size
      rw [rep.sz]
      exact cb_of (shown_below _ _)
  · refine ans_no rep good (if_neg h) (step_no rfl ?_)
    cases e : (decide (1 ≤ l.length) && Vbcead.isList 7 l) with
    | false => exact e
    | true => exact absurd (startOk_iff.mpr e) h
theorem law_columns (rep : Rep s m) (good : Good m) : Ans m (.ok (dI ((m.cols.length : Int) :: m.cols)) m) (Vbcead.step s [[2]]) := by
  refine ans_same rep good rfl ?_
  rw [rep.len, rep.cols]
  rfl
theorem iter_out {α : Type} (f : α → α) : ∀ (n : Nat) (x : α), iter f n (f x) = f (iter f n x)
  | 0, _ => rfl
  | n + 1, x => by
    show f (iter f n (f x)) = _
    rw [iter_out f n x]
    rfl
theorem repeated_iter (f : List Nat → List Nat) : ∀ (n : Nat) (l : List Nat), Vbcead.repeated f n l = iter f n l
  | 0, _ => rfl
  | n + 1, l => by
    show Vbcead.repeated f n (f l) = _
    rw [repeated_iter f n (f l), iter_out]
    rfl
theorem iter_keep {α : Type} {f : α → α} {P : α → Prop} (h : ∀ x, P x → P (f x)) : ∀ (n : Nat) {x : α}, P x → P (iter f n x)
  | 0, _, q => q
  | n + 1, _, q => h _ (iter_keep h n q)
theorem printed_is (w : Nat) : ∀ (n : Nat) (l : List Nat), (Vbcead.printed w n l).2 = iter (Vbcead.cranked w) n l ∧ (Vbcead.printed w n l).1 = (List.range n).map fun t => Vbcead.signed w ((iter (Vbcead.cranked w) t l).getD 0 0)
  | 0, _ => ⟨rfl, rfl⟩
  | n + 1, l => by
    obtain ⟨h1, h2⟩ := printed_is w n (Vbcead.cranked w l)
    refine ⟨?_, ?_⟩
    · show (Vbcead.printed w n (Vbcead.cranked w l)).2 = _
      rw [h1, iter_out]
      rfl
    · show Vbcead.signed w (l.getD 0 0) :: (Vbcead.printed w n (Vbcead.cranked w l)).1 = _
      rw [h2, List.range_succ_eq_map, List.map_cons, List.map_map]
      congr 1
      refine List.map_congr_left fun t _ => ?_
      rw [iter_out]
      rfl
theorem colsAt_is (w : Nat) (l : List Nat) : ∀ t, colsAt (Vbcead.size_ w : Int) (-1) (-1) (iN l) t = iN (iter (Vbcead.cranked w) t l)
  | 0 => rfl
  | t + 1 => by
    show turnedM _ _ (if _ then _ else _) = _
    rw [ite_self, colsAt_is w l t, turned_is]
    rfl
theorem printedM_is (w : Nat) (l : List Nat) (n : Nat) : printedM (Vbcead.size_ w : Int) (-1) (-1) (iN l) n = (Vbcead.printed w n l).1 := by
  rw [(printed_is w n l).2]
  unfold printedM
  refine List.map_congr_left fun t _ => ?_
  rw [colsAt_is, iN_getD, signed_is]
theorem iter_cranked_len (w : Nat) (l : List Nat) (n : Nat) : (iter (Vbcead.cranked w) n l).length = l.length := iter_keep (f := Vbcead.cranked w) (P := fun x => x.length = l.length) (fun x h => by rw [cranked_len]; exact h) n rfl
theorem iter_cranked_below {w : Nat} {l : List Nat} (h : Below w l) (n : Nat) : Below w (iter (Vbcead.cranked w) n l) := iter_keep (P := Below w) (fun x h => cranked_below h) n h
theorem head_lt {w : Nat} {l : List Nat} (h : Below w l) : l.getD 0 0 < Vbcead.size_ w := by
  cases l with
  | nil => exact size_pos w
  | cons a l => exact h a List.mem_cons_self
theorem law_crank (rep : Rep s m) (good : Good m) (n : Int) : Ans m (crankF m n) (Vbcead.step s [[3, n]]) := by
  unfold crankF
  by_cases h : 0 ≤ n ∧ n ≤ 60
  · rw [if_pos h]
    have e := step_ok (s := s) (c := [[3, n]]) (d := .crank n) rfl (btw.mpr h)
    by_cases hc : m.cols = []
    · refine ans_no rep good (if_pos hc) (e.trans ?_)
      show Vbcead.onColumns s _ = _
      unfold Vbcead.onColumns
      rw [if_pos (rep.nil.mp hc)] <;> rfl
    · rw [if_neg hc]
      have e1 : Vbcead.act s (.crank n) = if Vbcead.LINES < s.sheet.length + n.toNat then Vbcead.no s 3 else ({ s with columns := (Vbcead.printed s.wheels n.toNat s.columns).2, sheet := s.sheet ++ (Vbcead.printed s.wheels n.toNat s.columns).1 }, Vbcead.listRow (Vbcead.printed s.wheels n.toNat s.columns).1) := if_neg fun z => hc (rep.nil.mpr z)
      rw [e1] at e
      by_cases hl : (m.lines.length : Int) + n ≤ 60
      · have hl' : ¬ Vbcead.LINES < s.sheet.length + n.toNat := by
          show ¬ 60 < _
          rw [rep.lines] at hl
          omega
        rw [if_neg hl'] at e
        have b := iter_cranked_below (good.below rep) n.toNat
        obtain ⟨p2, p1⟩ := printed_is s.wheels n.toNat s.columns
        refine ans_ok (m' := { m with cols := iN (Vbcead.printed s.wheels n.toNat s.columns).2, lines := m.lines ++ (Vbcead.printed s.wheels n.toNat s.columns).1 }) ?_ e ⟨rep.size, rfl, ?_⟩ ?_
        · rw [if_pos hl, rep.sz, rep.cols, printedM_is, colsAt_is, p2] <;> rfl
        · show m.lines ++ _ = s.sheet ++ _
          rw [rep.lines]
        · rw [p2]
          have g := good_cols good rep (l := iter (Vbcead.cranked s.wheels) n.toNat s.columns) (iter_cranked_len _ _ _) b
          refine good_lines g ?_ ?_
          · rw [List.length_append, p1, List.length_map, List.length_range]
            omega
          · intro a ha
            rcases List.mem_append.mp ha with ha | ha
            · exact good.lb a ha
            · rw [p1] at ha
              obtain ⟨t, _, rfl⟩ := List.mem_map.mp ha
              exact signed_lt (head_lt (iter_cranked_below (good.below rep) t)) (by rw [← rep.sz]; exact good.top)
      · refine ans_no rep good (if_neg hl) (e.trans (if_pos ?_))
        show 60 < _
        rw [rep.lines] at hl
        omega
  · exact ans_no rep good (if_neg h) (step_no rfl (btwN h))
theorem iter_back {w : Nat} {l : List Nat} (h : Below w l) : ∀ n, iter (backM (Vbcead.size_ w : Int)) n (iN l) = iN (iter (Vbcead.cranked_back w) n l) ∧ Below w (iter (Vbcead.cranked_back w) n l) ∧ (iter (Vbcead.cranked_back w) n l).length = l.length
  | 0 => ⟨rfl, h, rfl⟩
  | n + 1 => by
    obtain ⟨h1, h2, h3⟩ := iter_back h n
    obtain ⟨q1, q2, q3⟩ := back_is h2
    refine ⟨?_, q2, q3.trans h3⟩
    show backM _ (iter _ n _) = _
    rw [h1, q1]
    rfl
theorem law_back (rep : Rep s m) (good : Good m) (n : Int) : Ans m (backF m n) (Vbcead.step s [[4, n]]) := by
  unfold backF
  by_cases h : 0 ≤ n ∧ n ≤ 60
  · rw [if_pos h]
    have e := step_ok (s := s) (c := [[4, n]]) (d := .back n) rfl (btw.mpr h)
    by_cases hc : m.cols = []
    · refine ans_no rep good (if_pos hc) (e.trans ?_)
      show Vbcead.onColumns s _ = _
      unfold Vbcead.onColumns
      rw [if_pos (rep.nil.mp hc)] <;> rfl
    · rw [if_neg hc]
      have e1 : Vbcead.act s (.back n) = ({ s with columns := Vbcead.repeated (Vbcead.cranked_back s.wheels) n.toNat s.columns }, [0]) := if_neg fun z => hc (rep.nil.mpr z)
      rw [e1, repeated_iter] at e
      obtain ⟨q1, q2, q3⟩ := iter_back (good.below rep) n.toNat
      refine ans_ok ?_ e (rep_cols rep _) (good_cols good rep q3 q2)
      rw [rep.sz, rep.cols, q1]
  · exact ans_no rep good (if_neg h) (step_no rfl (btwN h))
theorem iter_half {w : Nat} {l : List Nat} (h : Below w l) (k : Nat) (hk : k ≤ 1) : ∀ n, iter (fun x => halfM x (Vbcead.size_ w : Int) k) n (iN l) = iN (iter (fun x => Vbcead.half w ((k : Int) == 1) x) n l) ∧ Below w (iter (fun x => Vbcead.half w ((k : Int) == 1) x) n l) ∧ (iter (fun x => Vbcead.half w ((k : Int) == 1) x) n l).length = l.length
  | 0 => ⟨rfl, h, rfl⟩
  | n + 1 => by
    obtain ⟨h1, h2, h3⟩ := iter_half h k hk n
    refine ⟨?_, halfFrom_below h2, (halfFrom_len _ _ _).trans h3⟩
    show halfM (iter _ n _) _ k = _
    rw [h1, half_is _ _ _ hk]
    rfl
theorem law_half (rep : Rep s m) (good : Good m) (o n : Int) : Ans m (halfF m o n) (Vbcead.step s [[5, o, n]]) := by
  unfold halfF
  by_cases h0 : 0 ≤ o ∧ o ≤ 1
  · rw [if_pos h0]
    by_cases h : 0 ≤ n ∧ n ≤ 60
    · rw [if_pos h]
      have e := step_ok (s := s) (c := [[5, o, n]]) (d := .half o n) rfl (by show (isBetween o 0 1 && isBetween n 0 60) = true; rw [btw.mpr h0, btw.mpr h] <;> rfl)
      by_cases hc : m.cols = []
      · refine ans_no rep good (if_pos hc) (e.trans ?_)
        show Vbcead.onColumns s _ = _
        unfold Vbcead.onColumns
        rw [if_pos (rep.nil.mp hc)] <;> rfl
      · rw [if_neg hc]
        have e1 : Vbcead.act s (.half o n) = ({ s with columns := Vbcead.repeated (fun l => Vbcead.half s.wheels (o == 1) l) n.toNat s.columns }, [0, Vbcead.signed s.wheels ((Vbcead.repeated (fun l => Vbcead.half s.wheels (o == 1) l) n.toNat s.columns).getD 0 0)]) := if_neg fun z => hc (rep.nil.mpr z)
        rw [e1, repeated_iter] at e
        obtain ⟨q1, q2, q3⟩ := iter_half (good.below rep) o.toNat (by omega) n.toNat
        rw [show ((o.toNat : Nat) : Int) = o by omega] at q1 q2 q3
        have ei : halfIt m o n.toNat = iN (iter (fun x => Vbcead.half s.wheels (o == 1) x) n.toNat s.columns) := by
          unfold halfIt
          rw [rep.sz, rep.cols]
          exact q1
        refine ans_ok ?_ e (rep_cols rep _) (good_cols good rep q3 q2)
        rw [ei, iN_getD, rep.sz, signed_is]
    · exact ans_no rep good (if_neg h) (step_no rfl (by show (isBetween o 0 1 && isBetween n 0 60) = false; rw [btwN h, Bool.and_false]))
  · exact ans_no rep good (if_neg h0) (step_no rfl (by show (isBetween o 0 1 && isBetween n 0 60) = false; rw [btwN h0, Bool.false_and]))
theorem law_skip (rep : Rep s m) (good : Good m) (j : Int) : Ans m (skipF m j) (Vbcead.step s [[6, j]]) := by
  unfold skipF
  rw [rep.len]
  by_cases h : 0 ≤ j ∧ j ≤ (s.columns.length : Int) - 2
  · rw [if_pos h]
    have e := step_ok (s := s) (c := [[6, j]]) (d := .skip j) rfl (btw.mpr h)
    have e1 : Vbcead.act s (.skip j) = if Vbcead.LINES ≤ s.sheet.length then Vbcead.no s 3 else ({ s with columns := Vbcead.skipping s.wheels j.toNat s.columns, sheet := s.sheet ++ [Vbcead.signed s.wheels (s.columns.getD 0 0)] }, [0, Vbcead.signed s.wheels (s.columns.getD 0 0)]) := if_neg fun z => by
      rw [List.isEmpty_iff] at z
      rw [z] at h
      have h2 : j ≤ (0 : Int) - 2 := h.2
      omega
    rw [e1] at e
    by_cases hl : (m.lines.length : Int) < 60
    · rw [if_neg (by show ¬ 60 ≤ _; rw [rep.lines] at hl; omega)] at e
      have hj : j.toNat < s.columns.length := by omega
      refine ans_ok (m' := { m with lines := m.lines ++ [Vbcead.signed s.wheels (s.columns.getD 0 0)], cols := iN (Vbcead.skipping s.wheels j.toNat s.columns) }) ?_ e ⟨rep.size, rfl, ?_⟩ ?_
      · have ej : j = ((j.toNat : Nat) : Int) := by omega
        rw [if_pos hl, rep.sz, rep.cols, iN_getD, signed_is]
        rw [show turnedM (s.columns.map fun (n : Nat) => (n : Int)) (Vbcead.size_ s.wheels : Int) j = iN (Vbcead.skipping s.wheels j.toNat s.columns) from by rw [ej]; exact skipped_is _ _ _]
      · show m.lines ++ _ = s.sheet ++ _
        rw [rep.lines]
      · refine good_lines (good_cols good rep (skipping_len _ _ _) (skipping_below (good.below rep) hj)) ?_ ?_
        · rw [List.length_append]
          show _ + 1 ≤ 60
          omega
        · intro a ha
          rcases List.mem_append.mp ha with ha | ha
          · exact good.lb a ha
          · obtain rfl := List.mem_singleton.mp ha
            exact signed_lt (head_lt (good.below rep)) (by rw [← rep.sz]; exact good.top)
    · refine ans_no rep good (if_neg hl) (e.trans (if_pos ?_))
      show 60 ≤ _
      rw [rep.lines] at hl
      omega
  · exact ans_no rep good (if_neg h) (step_no rfl (btwN h))
theorem stagger_is {w : Nat} {l : List Nat} (h : Below w l) : staggerM (Vbcead.size_ w : Int) (iN l) = iN (Vbcead.staggered w l) ∧ Below w (Vbcead.staggered w l) ∧ (Vbcead.staggered w l).length = l.length := by
  refine ⟨?_, fun a ha => ?_, ?_⟩
  · unfold staggerM Vbcead.staggered
    show _ = List.map _ (List.map _ _)
    rw [List.length_map, List.map_map]
    refine List.map_congr_left fun j _ => ?_
    rw [(iter_back h (j / 2)).1, iN_getD]
    show _ = (((Vbcead.repeated _ _ _).getD j 0 : Nat) : Int)
    rw [repeated_iter]
  · unfold Vbcead.staggered at ha
    obtain ⟨j, hj, rfl⟩ := List.mem_map.mp ha
    have hj := List.mem_range.mp hj
    obtain ⟨_, q2, q3⟩ := iter_back h (j / 2)
    show (Vbcead.repeated _ _ _).getD j 0 < _
    rw [repeated_iter]
    exact q2 _ (getD_memN (by rw [q3]; exact hj))
  · unfold Vbcead.staggered
    rw [List.length_map, List.length_range]
theorem law_stagger (rep : Rep s m) (good : Good m) : Ans m (staggerF m) (Vbcead.step s [[21]]) := by
  unfold staggerF
  have e := step_ok (s := s) (c := [[21]]) (d := .stagger) rfl rfl
  by_cases hc : m.cols = []
  · refine ans_no rep good (if_pos hc) (e.trans ?_)
    show Vbcead.onColumns s _ = _
    unfold Vbcead.onColumns
    rw [if_pos (rep.nil.mp hc)] <;> rfl
  · rw [if_neg hc]
    have e1 : Vbcead.act s .stagger = ({ s with columns := Vbcead.staggered s.wheels s.columns }, (s.columns.length : Int) :: iN (Vbcead.staggered s.wheels s.columns)) := if_neg fun z => hc (rep.nil.mpr z)
    rw [e1] at e
    obtain ⟨q1, q2, q3⟩ := stagger_is (good.below rep)
    refine ans_ok ?_ e (rep_cols rep _) (good_cols good rep q3 q2)
    rw [rep.len, rep.sz, rep.cols, q1] <;> rfl
theorem law_clear (rep : Rep s m) (good : Good m) : Ans m (clearF m) (Vbcead.step s [[23]]) := by
  refine ans_ok (l := [0]) rfl (step_ok (d := .clear) rfl rfl) ⟨by decide, rfl, rfl⟩ ⟨by decide, by decide, by decide, (fun a q => nomatch q), by decide, (fun a q => nomatch q)⟩
end
end CE
namespace CE
open VbceCore
/-! ### explain -/
/-- columns of which one is stuck in one turn -/
def colsN (w : Nat) (cols : List Nat) (t j : Nat) : Nat → List Nat
  | 0 => cols
  | i + 1 => if i = t then Vbcead.skipping w j (colsN w cols t j i) else Vbcead.cranked w (colsN w cols t j i)
theorem colsN_succ (w : Nat) (cols : List Nat) (t j i : Nat) : colsN w cols t j (i + 1) = if i = t then Vbcead.skipping w j (colsN w cols t j i) else Vbcead.cranked w (colsN w cols t j i) := rfl
theorem colsN_len (w : Nat) (cols : List Nat) (t j : Nat) : ∀ i, (colsN w cols t j i).length = cols.length
  | 0 => rfl
  | i + 1 => by
    show (if _ then _ else _ : List Nat).length = _
    split
    · rw [skipping_len, colsN_len w cols t j i]
    · rw [cranked_len, colsN_len w cols t j i]
theorem colsAt_stuck (w : Nat) (cols : List Nat) (t j : Nat) : ∀ i, colsAt (Vbcead.size_ w : Int) (t : Int) (j : Int) (iN cols) i = iN (colsN w cols t j i)
  | 0 => rfl
  | i + 1 => by
    show turnedM (colsAt _ _ _ _ i) _ (if ((i : Int)) = (t : Int) then (j : Int) else -1) = iN (if i = t then _ else _)
    rw [colsAt_stuck w cols t j i]
    by_cases h : i = t
    · rw [if_pos h, if_pos (by omega), skipped_is]
    · rw [if_neg h, if_neg (by omega), turned_is]
theorem colsN_before (w : Nat) (cols : List Nat) (t j : Nat) : ∀ i, i ≤ t → colsN w cols t j i = iter (Vbcead.cranked w) i cols
  | 0, _ => rfl
  | i + 1, h => by
    show (if i = t then _ else _) = _
    rw [if_neg (by omega), colsN_before w cols t j i (by omega)]
    rfl
theorem colsN_behind (w : Nat) (cols : List Nat) (t j : Nat) : ∀ q, colsN w cols t j (t + 1 + q) = iter (Vbcead.cranked w) q (Vbcead.skipping w j (iter (Vbcead.cranked w) t cols))
  | 0 => by
    show (if t = t then _ else _) = _
    rw [if_pos rfl, colsN_before w cols t j t (Nat.le_refl t)]
    rfl
  | q + 1 => by
    show colsN w cols t j (t + 1 + q + 1) = _
    rw [colsN_succ, if_neg (by omega), colsN_behind w cols t j q]
    rfl
theorem stuck_is (w : Nat) (cols : List Nat) (n t j : Nat) : Vbcead.stuckSheet w cols n t j = (List.range n).map fun i => Vbcead.signed w ((colsN w cols t j i).getD 0 0) := by
  unfold Vbcead.stuckSheet
  by_cases h : n ≤ t
  · rw [if_pos h, (printed_is w n cols).2]
    refine List.map_congr_left fun i hi => ?_
    have := List.mem_range.mp hi
    rw [colsN_before w cols t j i (by omega)]
  · rw [if_neg h, (printed_is w t cols).1, (printed_is w t cols).2]
    have e : n = t + (1 + (n - t - 1)) := by omega
    rw [show List.range n = List.range (t + (1 + (n - t - 1))) from by rw [← e], List.range_add, List.range_add, List.map_append, List.map_append, List.map_append]
    congr 1
    · refine List.map_congr_left fun i hi => ?_
      have := List.mem_range.mp hi
      rw [colsN_before w cols t j i (by omega)]
    · rw [(printed_is w (n - t - 1) _).2]
      show _ :: _ = _ :: ([] ++ _)
      rw [List.nil_append]
      congr 1
      · show _ = Vbcead.signed w ((colsN w cols t j (t + 0)).getD 0 0)
        rw [Nat.add_zero, colsN_before w cols t j t (Nat.le_refl t)]
      · rw [List.map_map, List.map_map]
        refine List.map_congr_left fun i _ => ?_
        show _ = Vbcead.signed w ((colsN w cols t j (t + (1 + i))).getD 0 0)
        rw [show t + (1 + i) = t + 1 + i by omega, colsN_behind]
theorem printedM_stuck (w : Nat) (cols : List Nat) (n t j : Nat) : printedM (Vbcead.size_ w : Int) (t : Int) (j : Int) (iN cols) n = Vbcead.stuckSheet w cols n t j := by
  rw [stuck_is]
  unfold printedM
  refine List.map_congr_left fun i _ => ?_
  rw [colsAt_stuck, iN_getD, signed_is]
/-! #### where a stuck column shows first -/
section
variable {w : Nat} {cols : List Nat} {t j : Nat}
theorem mod_add_mod' (a b S : Nat) : (a + b % S) % S = (a + b) % S := by rw [Nat.add_mod, Nat.mod_mod, ← Nat.add_mod]
theorem apart (hj : j + 1 < cols.length) (hb : Below w cols) : ∀ q, q ≤ j → (∀ c, c + q < j → (colsN w cols t j (t + 1 + q)).getD c 0 = (iter (Vbcead.cranked w) (t + 1 + q) cols).getD c 0) ∧
    (∀ c, c + q = j → (iter (Vbcead.cranked w) (t + 1 + q) cols).getD c 0 = ((colsN w cols t j (t + 1 + q)).getD c 0 + (iter (Vbcead.cranked w) t cols).getD (j + 1) 0) % Vbcead.size_ w)
  | 0, _ => by
    have hl := iter_cranked_len w cols t
    have en : colsN w cols t j (t + 1 + 0) = Vbcead.skipping w j (iter (Vbcead.cranked w) t cols) := colsN_behind w cols t j 0
    have ec : iter (Vbcead.cranked w) (t + 1 + 0) cols = Vbcead.cranked w (iter (Vbcead.cranked w) t cols) := rfl
    rw [en, ec]
    unfold Vbcead.skipping
    refine ⟨fun c hc => ?_, fun c hc => ?_⟩
    · rw [List.getD_eq_getElem?_getD, List.getElem?_set_ne (by omega), ← List.getD_eq_getElem?_getD]
    · obtain rfl : c = j := by omega
      rw [List.getD_eq_getElem?_getD (l := List.set _ _ _), List.getElem?_set_self (by rw [cranked_len, hl]; omega), cranked_at _ _ _ (by rw [hl]; omega), if_pos (by rw [hl]; exact hj)] <;> rfl
  | q + 1, hq => by
    obtain ⟨h1, h2⟩ := apart hj hb q (by omega)
    have hl := iter_cranked_len w cols (t + 1 + q)
    have hl2 := colsN_len w cols t j (t + 1 + q)
    have en : colsN w cols t j (t + 1 + (q + 1)) = Vbcead.cranked w (colsN w cols t j (t + 1 + q)) := by
      show colsN w cols t j (t + 1 + q + 1) = _
      rw [colsN_succ, if_neg (by omega)]
    have ec : iter (Vbcead.cranked w) (t + 1 + (q + 1)) cols = Vbcead.cranked w (iter (Vbcead.cranked w) (t + 1 + q) cols) := rfl
    rw [en, ec]
    refine ⟨fun c hc => ?_, fun c hc => ?_⟩
    · rw [cranked_at w (colsN w cols t j (t + 1 + q)) c (by rw [hl2]; omega), cranked_at w (iter (Vbcead.cranked w) (t + 1 + q) cols) c (by rw [hl]; omega), if_pos (by rw [hl2]; omega), if_pos (by rw [hl]; omega), h1 c (by omega), h1 (c + 1) (by omega)]
    · rw [cranked_at w (colsN w cols t j (t + 1 + q)) c (by rw [hl2]; omega), cranked_at w (iter (Vbcead.cranked w) (t + 1 + q) cols) c (by rw [hl]; omega), if_pos (by rw [hl]; omega), if_pos (by rw [hl2]; omega), ← h1 c (by omega), h2 (c + 1) (by omega)]
      rw [mod_add_mod', Nat.mod_add_mod, Nat.add_assoc, Nat.add_assoc]
theorem colsN_below (hj : j < cols.length) (hb : Below w cols) : ∀ i, Below w (colsN w cols t j i)
  | 0 => hb
  | i + 1 => by
    show Below w (if _ then _ else _)
    split
    · exact skipping_below (colsN_below hj hb i) (by rw [colsN_len]; exact hj)
    · exact cranked_below (colsN_below hj hb i)
theorem signed_inj {a b : Nat} (ha : a < Vbcead.size_ w) (hb : b < Vbcead.size_ w) (h : Vbcead.signed w a = Vbcead.signed w b) : a = b := by
  unfold Vbcead.signed at h
  split at h <;> split at h <;> omega
/-- a stuck column that changes the lines at all shows first at the line t + 1 + j -/
theorem first_shown (hj : j + 1 < cols.length) (hb : Below w cols) {n : Nat} (hne : (Vbcead.printed w n cols).1 ≠ Vbcead.stuckSheet w cols n t j) : t + 1 + j < n ∧ firstM (Vbcead.printed w n cols).1 (Vbcead.stuckSheet w cols n t j) = ((t + 1 + j : Nat) : Int) := by
  have hv := iter_cranked_below hb t ((iter (Vbcead.cranked w) t cols).getD (j + 1) 0) (getD_memN (by rw [iter_cranked_len]; exact hj))
  have like : ∀ i, i < t + 1 + j → (iter (Vbcead.cranked w) i cols).getD 0 0 = (colsN w cols t j i).getD 0 0 := fun i hi => by
    by_cases h : i ≤ t
    · rw [colsN_before w cols t j i h]
    · have := (apart (t := t) hj hb (i - (t + 1)) (by omega)).1 0 (by omega)
      rw [show t + 1 + (i - (t + 1)) = i by omega] at this
      exact this.symm
  have at0 : (iter (Vbcead.cranked w) (t + 1 + j) cols).getD 0 0 = ((colsN w cols t j (t + 1 + j)).getD 0 0 + (iter (Vbcead.cranked w) t cols).getD (j + 1) 0) % Vbcead.size_ w := (apart (t := t) hj hb j (Nat.le_refl j)).2 0 (by omega)
  rw [(printed_is w n cols).2, stuck_is] at hne ⊢
  have hn : t + 1 + j < n := by
    rcases Nat.lt_or_ge (t + 1 + j) n with h | h
    · exact h
    · refine absurd (List.map_congr_left fun i hi => ?_) hne
      have := List.mem_range.mp hi
      rw [like i (by omega)]
  refine ⟨hn, ?_⟩
  by_cases v0 : (iter (Vbcead.cranked w) t cols).getD (j + 1) 0 = 0
  · -- nothing is lost: the columns stay alike
    have same : Vbcead.skipping w j (iter (Vbcead.cranked w) t cols) = Vbcead.cranked w (iter (Vbcead.cranked w) t cols) := by
      unfold Vbcead.skipping
      have hl := iter_cranked_len w cols t
      have e : (iter (Vbcead.cranked w) t cols).getD j 0 = (Vbcead.cranked w (iter (Vbcead.cranked w) t cols)).getD j 0 := by
        rw [cranked_at _ _ _ (by rw [hl]; omega), if_pos (by rw [hl]; exact hj), v0, Nat.add_zero, Nat.mod_eq_of_lt (iter_cranked_below hb t _ (getD_memN (by rw [hl]; omega)))]
      rw [e]
      refine List.ext_getElem? fun i => ?_
      by_cases hi : i = j
      · subst hi
        have hi : i < (Vbcead.cranked w (iter (Vbcead.cranked w) t cols)).length := by rw [cranked_len, hl]; omega
        rw [List.getElem?_set_self hi, List.getD_eq_getElem?_getD, List.getElem?_eq_getElem hi] <;> rfl
      · rw [List.getElem?_set_ne (Ne.symm hi)]
    refine absurd (List.map_congr_left fun i hi => ?_) hne
    by_cases h : i ≤ t
    · rw [colsN_before w cols t j i h]
    · obtain ⟨q, rfl⟩ : ∃ q, i = t + 1 + q := ⟨i - (t + 1), by omega⟩
      rw [colsN_behind, same]
      congr 2
      have : ∀ q, iter (Vbcead.cranked w) (t + 1 + q) cols = iter (Vbcead.cranked w) q (Vbcead.cranked w (iter (Vbcead.cranked w) t cols)) := fun q => by
        induction q with
        | zero => rfl
        | succ q ih =>
          show Vbcead.cranked w (iter _ (t + 1 + q) _) = Vbcead.cranked w (iter _ q _)
          rw [ih]
      exact this q
  · unfold firstM
    rw [find_at (i := t + 1 + j) (f := fun i => decide ((List.map (fun t => Vbcead.signed w ((iter (Vbcead.cranked w) t cols).getD 0 0)) (List.range n)).getD i 0 ≠ (List.map (fun i => Vbcead.signed w ((colsN w cols t j i).getD 0 0)) (List.range n)).getD i 0)) (by rw [List.length_map, List.length_range]; exact hn)]
    · refine decide_eq_true fun z => ?_
      rw [List.getD_eq_getElem?_getD, List.getD_eq_getElem?_getD, List.getElem?_map, List.getElem?_map, List.getElem?_range hn] at z
      have z : Vbcead.signed w ((iter (Vbcead.cranked w) (t + 1 + j) cols).getD 0 0) = Vbcead.signed w ((colsN w cols t j (t + 1 + j)).getD 0 0) := z
      have hB := head_lt (colsN_below (t := t) (by omega : j < cols.length) hb (t + 1 + j))
      have z := signed_inj (head_lt (iter_cranked_below hb _)) hB z
      rw [at0] at z
      generalize (colsN w cols t j (t + 1 + j)).getD 0 0 = B at z hB
      generalize (iter (Vbcead.cranked w) t cols).getD (j + 1) 0 = v at z hv v0
      generalize Vbcead.size_ w = S at z hB hv
      rcases Nat.lt_or_ge (B + v) S with h | h
      · rw [Nat.mod_eq_of_lt h] at z; omega
      · rw [Nat.mod_eq_sub_mod h, Nat.mod_eq_of_lt (by omega)] at z; omega
    · intro i hi
      refine decide_eq_false fun z => z ?_
      rw [List.getD_eq_getElem?_getD, List.getD_eq_getElem?_getD, List.getElem?_map, List.getElem?_map, List.getElem?_range (by omega)]
      show Vbcead.signed w _ = Vbcead.signed w _
      rw [like i hi]
end
theorem firstM_neg {a b : List Int} (hl : a.length = b.length) : firstM a b < 0 ↔ a = b := by
  unfold firstM
  cases e : (List.range a.length).find? fun i => decide (a.getD i 0 ≠ b.getD i 0) with
  | some i =>
    have hi := List.find?_some e
    have hi := of_decide_eq_true hi
    refine ⟨fun z => ?_, fun z => absurd (by rw [z]) hi⟩
    have z : (i : Int) < 0 := z
    omega
  | none =>
    refine ⟨fun _ => ?_, fun _ => by show (-1 : Int) < 0; decide⟩
    have h := List.find?_eq_none.mp e
    refine List.ext_getElem? fun i => ?_
    by_cases hi : i < a.length
    · have := h i (List.mem_range.mpr hi)
      have : a.getD i 0 = b.getD i 0 := by
        have q : ¬ ¬ a.getD i 0 = b.getD i 0 := fun z => this (decide_eq_true z)
        exact Decidable.not_not.mp q
      rw [List.getD_eq_getElem?_getD, List.getD_eq_getElem?_getD, List.getElem?_eq_getElem hi, List.getElem?_eq_getElem (by omega)] at this
      rw [List.getElem?_eq_getElem hi, List.getElem?_eq_getElem (by omega)]
      exact congrArg some this
    · rw [List.getElem?_eq_none (by omega), List.getElem?_eq_none (by omega)]
/-- a search in a window -/
theorem find_window {α : Type} {n lo hi : Nat} {g : Nat → Option α} (h1 : lo ≤ hi) (h2 : hi ≤ n) (h : ∀ t, t < n → g t ≠ none → lo ≤ t ∧ t < hi) : (List.range n).findSome? g = (List.range (hi - lo)).findSome? fun i => g (lo + i) := by
  have e : n = lo + ((hi - lo) + (n - hi)) := by omega
  have z1 : (List.range lo).findSome? g = none := find_someN fun t ht => by
    cases q : g t with
    | none => rfl
    | some x => have := h t (by omega) (by rw [q]; simp); omega
  have z2 : ((List.range (n - hi)).map fun i => lo + ((hi - lo) + i)).findSome? g = none := by
    rw [List.findSome?_map]
    refine find_someN fun t ht => ?_
    show g (lo + ((hi - lo) + t)) = none
    cases q : g (lo + ((hi - lo) + t)) with
    | none => rfl
    | some x => have := h (lo + ((hi - lo) + t)) (by omega) (by rw [q]; simp); omega
  rw [show List.range n = List.range (lo + ((hi - lo) + (n - hi))) from by rw [← e], List.range_add, List.range_add, List.map_append, List.map_map, List.findSome?_append, List.findSome?_append, z1, List.findSome?_map]
  show Option.or none (Option.or _ (List.findSome? g (List.map (fun i => lo + (hi - lo + i)) (List.range (n - hi))))) = _
  rw [z2, Option.or_none, Option.none_or]
  rfl
theorem find_pairs {α β : Type} {f : α → List β} {p : β → Bool} : ∀ l : List α, (l.flatMap f).find? p = l.findSome? fun a => (f a).find? p
  | [] => rfl
  | a :: l => by
    rw [List.flatMap_cons, List.find?_append, List.findSome?_cons, find_pairs l]
    cases (f a).find? p <;> rfl
theorem law_explain {s : Vbcead.State} {m : Dk} (rep : Rep s m) (good : Good m) (l : List Int) : Ans m (explF m l) (Vbcead.step s [[20], l]) := by
  by_cases h : StartOk l
  · refine ans_same rep good (if_pos h) ((step_ok (d := .explain l) rfl (startOk_iff.mp h)).trans ?_)
    show (s, _) = (s, _)
    congr 1
    rw [rep.sz, shown_is, rep.lines]
    have hlen : (l.map (Vbcead.shown s.wheels)).length = l.length := List.length_map _
    have hbel := shown_below s.wheels l
    generalize l.map (Vbcead.shown s.wheels) = cols at hlen hbel
    generalize s.sheet = sheet
    generalize s.wheels = w at hbel
    have h1 := h.1
    show (if (Vbcead.printed w sheet.length cols).1 = sheet then [2] else match Vbcead.explained w cols sheet with
        | none => [0]
        | some x => [1, (x.1 : Int), (x.2 : Int)]) = explM (Vbcead.size_ w : Int) (iN cols) sheet
    unfold explM
    rw [printedM_is, List.length_map]
    have hpl : (Vbcead.printed w sheet.length cols).1.length = sheet.length := by rw [(printed_is w _ cols).2, List.length_map, List.length_range]
    by_cases hp : (Vbcead.printed w sheet.length cols).1 = sheet
    · rw [if_pos hp, if_pos ((firstM_neg hpl).mpr hp)]
    · rw [if_neg hp, if_neg fun z => hp ((firstM_neg hpl).mp z)]
      have hlt := firstM_lt (Vbcead.printed w sheet.length cols).1 sheet
      have hnn : ¬ firstM (Vbcead.printed w sheet.length cols).1 sheet < 0 := fun z => hp ((firstM_neg hpl).mp z)
      rw [hpl] at hlt
      obtain ⟨p, ep⟩ : ∃ p : Nat, firstM (Vbcead.printed w sheet.length cols).1 sheet = (p : Int) := ⟨(firstM (Vbcead.printed w sheet.length cols).1 sheet).toNat, by omega⟩
      rw [ep] at hlt ⊢
      have elo : max 0 ((p : Int) + 1 - (cols.length : Int)) = ((p + 1 - cols.length : Nat) : Int) := by omega
      rw [elo, show ((p : Int) - ((p + 1 - cols.length : Nat) : Int)).toNat = p - (p + 1 - cols.length) by omega]
      have eE : Vbcead.explained w cols sheet = (List.range sheet.length).findSome? fun t => (List.range (cols.length - 1)).findSome? fun j => if Vbcead.stuckSheet w cols sheet.length t j = sheet then some (t, j) else none := by
        unfold Vbcead.explained
        rw [find_pairs]
        congr 1
        funext t
        rw [List.find?_map]
        induction List.range (cols.length - 1) with
        | nil => rfl
        | cons j r ih =>
          rw [List.findSome?_cons, List.find?_cons]
          by_cases q : Vbcead.stuckSheet w cols sheet.length t j = sheet
          · rw [if_pos q]
            show Option.map _ (match (Vbcead.stuckSheet w cols sheet.length t j == sheet) with | true => _ | false => _) = _
            rw [q, beq_self_eq_true] <;> rfl
          · rw [if_neg q]
            show Option.map _ (match (Vbcead.stuckSheet w cols sheet.length t j == sheet) with | true => _ | false => _) = _
            rw [beq_false_of_ne q]
            exact ih
      rw [eE, find_window (lo := p + 1 - cols.length) (hi := p) (by omega) (by omega) fun t ht hg => ?_]
      · have eA : ∀ i, explAt (Vbcead.size_ w : Int) (iN cols) sheet ((p + 1 - cols.length : Nat) : Int) i = ((List.range (cols.length - 1)).findSome? fun j => if Vbcead.stuckSheet w cols sheet.length (p + 1 - cols.length + i) j = sheet then some (p + 1 - cols.length + i, j) else none).map fun x => [1, (x.1 : Int), (x.2 : Int)] := fun i => by
          unfold explAt
          rw [List.length_map]
          induction List.range (cols.length - 1) with
          | nil => rfl
          | cons j r ih =>
            rw [List.findSome?_cons, List.findSome?_cons, ih, show ((p + 1 - cols.length : Nat) : Int) + (i : Int) = ((p + 1 - cols.length + i : Nat) : Int) by omega, printedM_stuck]
            by_cases q : Vbcead.stuckSheet w cols sheet.length (p + 1 - cols.length + i) j = sheet
            · rw [if_pos q, if_pos q] <;> rfl
            · rw [if_neg q, if_neg q]
        have eF : explAt (Vbcead.size_ w : Int) (iN cols) sheet ((p + 1 - cols.length : Nat) : Int) = _ := funext eA
        rw [eF]
        induction List.range (p - (p + 1 - cols.length)) with
        | nil => rfl
        | cons i r ih =>
          rw [List.findSome?_cons, List.findSome?_cons]
          cases (List.range (cols.length - 1)).findSome? fun j => if Vbcead.stuckSheet w cols sheet.length (p + 1 - cols.length + i) j = sheet then some (p + 1 - cols.length + i, j) else none with
          | none => exact ih
          | some x => rfl
      · obtain ⟨x, hx⟩ := Option.ne_none_iff_exists'.mp hg
        obtain ⟨j, hj, hy⟩ := List.exists_of_findSome?_eq_some hx
        have hj := List.mem_range.mp hj
        by_cases q : Vbcead.stuckSheet w cols sheet.length t j = sheet
        · obtain ⟨a1, a2⟩ := first_shown (t := t) (n := sheet.length) (by omega : j + 1 < cols.length) hbel (by rw [q]; exact hp)
          rw [q, ep] at a2
          omega
        · rw [if_neg q] at hy; cases hy
  · refine ans_no rep good (if_neg h) (step_no (d := .explain l) rfl ?_)
    cases e : (decide (1 ≤ l.length) && Vbcead.isList 7 l) with
    | false => exact e
    | true => exact absurd (startOk_iff.mpr e) h
end CE
namespace CE
open VbceCore
section
variable {s : Vbcead.State} {m : Dk}
theorem on_few {k : Nat} {f : Vbcead.State × List Int} (h : s.sheet.length < k) : Vbcead.onLines s k f = (s, [-5]) := if_pos h
theorem on_many {k : Nat} {f : Vbcead.State × List Int} (h : ¬ s.sheet.length < k) : Vbcead.onLines s k f = f := if_neg h
theorem law_sheet (rep : Rep s m) (good : Good m) (l : List Int) : Ans m (sheetF m l) (Vbcead.step s [[7], l]) := by
  unfold sheetF
  by_cases h : l.length ≤ 60
  · rw [if_pos h]
    by_cases h2 : l.all Vbcead.isGreat = true
    · refine ans_ok (if_pos h2) (step_ok (d := .sheet l) rfl ?_) ⟨rep.size, rep.cols, rfl⟩ (good_lines good h fun a ha => great_110 (List.all_eq_true.mp h2 a ha))
      show (decide (l.length ≤ 60) && l.all Vbcead.isGreat) = true
      rw [decide_eq_true h, h2] <;> rfl
    · refine ans_no rep good (if_neg h2) (step_no (d := .sheet l) rfl ?_)
      show (decide (l.length ≤ 60) && l.all Vbcead.isGreat) = false
      rw [Bool.eq_false_iff.mpr h2, Bool.and_false]
  · refine ans_no rep good (if_neg h) (step_no (d := .sheet l) rfl ?_)
    show (decide (l.length ≤ 60) && l.all Vbcead.isGreat) = false
    rw [decide_eq_false h, Bool.false_and]
theorem law_lines (rep : Rep s m) (good : Good m) : Ans m (.ok (dI (toldM m.lines)) m) (Vbcead.step s [[8]]) := by
  refine ans_same rep good rfl ?_
  rw [rep.lines]
  rfl
theorem law_change (rep : Rep s m) (good : Good m) (i v : Int) : Ans m (changeF m i v) (Vbcead.step s [[9, i, v]]) := by
  unfold changeF
  rw [rep.lines]
  by_cases h : 0 ≤ i ∧ i ≤ (s.sheet.length : Int) - 1
  · rw [if_pos h]
    by_cases h2 : Vbcead.isGreat v = true
    · refine ans_ok (if_pos h2) (step_ok (d := .change i v) rfl ?_) ⟨rep.size, rep.cols, rfl⟩ (good_lines good ?_ fun a ha => ?_)
      · show (isBetween i 0 ((s.sheet.length : Int) - 1) && Vbcead.isGreat v) = true
        rw [btw.mpr h, h2] <;> rfl
      · rw [List.length_set, ← rep.lines]
        exact good.ll
      · rcases List.mem_or_eq_of_mem_set ha with ha | rfl
        · exact good.lb a (by rw [rep.lines]; exact ha)
        · exact great_110 h2
    · refine ans_no rep good (if_neg h2) (step_no (d := .change i v) rfl ?_)
      show (isBetween i 0 ((s.sheet.length : Int) - 1) && Vbcead.isGreat v) = false
      rw [Bool.eq_false_iff.mpr h2, Bool.and_false]
  · refine ans_no rep good (if_neg h) (step_no (d := .change i v) rfl ?_)
    show (isBetween i 0 ((s.sheet.length : Int) - 1) && Vbcead.isGreat v) = false
    rw [btwN h, Bool.false_and]
theorem law_differences (rep : Rep s m) (good : Good m) (k : Int) : Ans m (diffF m k) (Vbcead.step s [[10, k]]) := by
  unfold diffF
  rw [rep.lines]
  by_cases h : 0 ≤ k ∧ k ≤ 12
  · exact ans_same rep good (if_pos h) (step_ok (d := .differences k) rfl (btw.mpr h))
  · exact ans_no rep good (if_neg h) (step_no (d := .differences k) rfl (btwN h))
/-- calls that want k lines -/
theorem law_k (rep : Rep s m) (good : Good m) {k : Int} {c : List (List Int)} {d : Vbcead.Call} {l : List Int} (hd : Vbcead.decode c = some d) (hr : Vbcead.inRange s d = isBetween k 1 7) (ha : Vbcead.act s d = Vbcead.onLines s k.toNat (s, l)) :
    Ans m (if 1 ≤ k ∧ k ≤ 7 then (if k + 0 ≤ (m.lines.length : Int) then .ok (dI l) m else .no (-5)) else .no (-1)) (Vbcead.step s c) := by
  by_cases h : 1 ≤ k ∧ k ≤ 7
  · rw [if_pos h]
    have e := (step_ok hd (hr.trans (btw.mpr h))).trans ha
    rw [rep.lines]
    by_cases h2 : k + 0 ≤ (s.sheet.length : Int)
    · exact ans_same rep good (if_pos h2) (e.trans (on_many (by omega)))
    · exact ans_no rep good (if_neg h2) (e.trans (on_few (by omega)))
  · exact ans_no rep good (if_neg h) (step_no hd (hr.trans (btwN h)))
theorem law_start (rep : Rep s m) (good : Good m) (k : Int) : Ans m (startF m k) (Vbcead.step s [[11, k]]) := law_k rep good (d := .start_ k) rfl rfl (by rw [rep.lines] <;> rfl)
theorem law_degree (rep : Rep s m) (good : Good m) : Ans m (.ok (dI [(Vbcead.degree m.lines : Int)]) m) (Vbcead.step s [[12]]) := by
  refine ans_same rep good rfl ?_
  rw [rep.lines]
  rfl
theorem law_value (rep : Rep s m) (good : Good m) (k x : Int) : Ans m (valueF m k x) (Vbcead.step s [[13, k, x]]) := by
  unfold valueF
  rw [rep.lines]
  by_cases h : 1 ≤ k ∧ k ≤ 7
  · rw [if_pos h]
    by_cases hx : 0 - 1000000 ≤ x ∧ x ≤ 1000000
    · rw [if_pos hx]
      have e := step_ok (s := s) (c := [[13, k, x]]) (d := .value k x) rfl (by show (isBetween k 1 7 && isBetween x (-1000000) 1000000) = true; rw [btw.mpr h, btw.mpr (by omega)] <;> rfl)
      by_cases h2 : k + 0 ≤ (s.sheet.length : Int)
      · exact ans_same rep good (if_pos h2) (e.trans (on_many (by omega)))
      · exact ans_no rep good (if_neg h2) (e.trans (on_few (by omega)))
    · refine ans_no rep good (if_neg hx) (step_no (d := .value k x) rfl ?_)
      show (isBetween k 1 7 && isBetween x (-1000000) 1000000) = false
      rw [btwN (by omega : ¬ (-1000000 ≤ x ∧ x ≤ 1000000)), Bool.and_false]
  · refine ans_no rep good (if_neg h) (step_no (d := .value k x) rfl ?_)
    show (isBetween k 1 7 && isBetween x (-1000000) 1000000) = false
    rw [btwN h, Bool.false_and]
theorem law_clean (rep : Rep s m) (good : Good m) (k : Int) : Ans m (cleanF m k) (Vbcead.step s [[14, k]]) := by
  unfold cleanF
  rw [rep.lines]
  by_cases h : 1 ≤ k ∧ k ≤ 7
  · exact ans_same rep good (if_pos h) (step_ok (d := .clean k) rfl (btw.mpr h))
  · exact ans_no rep good (if_neg h) (step_no (d := .clean k) rfl (btwN h))
theorem law_bears (rep : Rep s m) (good : Good m) (k : Int) : Ans m (bearsF m k) (Vbcead.step s [[17, k]]) := by
  by_cases h : 1 ≤ k ∧ k + 0 ≤ (m.lines.length : Int)
  · have e : bearsF m k = (if 1 ≤ k ∧ k ≤ 7 then (if k + 0 ≤ (m.lines.length : Int) then .ok (dI (iN [s.sheet.length - k.toNat + 1, (s.sheet.length - k.toNat) / 2, Vbcead.bears k.toNat s.sheet.length])) m else .no (-5)) else .no (-1)) := by
      unfold bearsF
      congr 2
      congr 1
      have e1 : (m.lines.length : Int) - k = ((s.sheet.length - k.toNat : Nat) : Int) := by rw [rep.lines] at h ⊢; omega
      rw [e1, rep.lines]
      show PySem.PyData.list (List.map _ [_, _, _]) = PySem.PyData.list (List.map _ [_, _, _])
      congr 3
    rw [e]
    exact law_k rep good (d := .bears k) rfl rfl rfl
  · unfold bearsF
    by_cases h1 : 1 ≤ k ∧ k ≤ 7
    · rw [if_pos h1]
      refine ans_no rep good (if_neg (by omega)) ((step_ok (d := .bears k) rfl (btw.mpr h1)).trans (on_few ?_))
      rw [rep.lines] at h
      omega
    · exact ans_no rep good (if_neg h1) (step_no (d := .bears k) rfl (btwN h1))
theorem law_takes (rep : Rep s m) (good : Good m) (l : List Int) : Ans m (takesF m l) (Vbcead.step s [[22], l]) := by
  unfold takesF
  by_cases h : StartOk l
  · rw [if_pos h]
    have e := step_ok (s := s) (c := [[22], l]) (d := .takes l) rfl (startOk_iff.mp h)
    by_cases h2 : (l.length : Int) ≤ (m.lines.length : Int)
    · refine ans_same rep good (if_pos h2) (e.trans ((on_many (by rw [rep.lines] at h2; omega)).trans ?_))
      unfold takesL
      rw [rep.lines]
      congr 2
      · by_cases q : Vbcead.leading l.length s.sheet = l
        · rw [if_pos q, if_pos (decide_eq_true q)]
        · rw [if_neg q, if_neg (by rw [decide_eq_false q]; decide)]
      · congr 1
        by_cases q : s.sheet = (List.range s.sheet.length).map fun (i : Nat) => Vbcead.valueAt l (i : Int)
        · rw [if_pos q, if_pos (decide_eq_true q.symm)]
        · rw [if_neg q, if_neg (by rw [decide_eq_false fun z => q z.symm]; decide)]
    · exact ans_no rep good (if_neg h2) (e.trans (on_few (by rw [rep.lines] at h2; omega)))
  · refine ans_no rep good (if_neg h) (step_no (d := .takes l) rfl ?_)
    cases e : (decide (1 ≤ l.length) && Vbcead.isList 7 l) with
    | false => exact e
    | true => exact absurd (startOk_iff.mpr e) h
/-! #### rival, halfway -/
theorem rises_iff : ∀ l : List Int, Vbcead.rises l = decide ((l.dropLast.zip l.tail).filter (fun p => decide (p.2 ≤ p.1)) = [])
  | [] => rfl
  | [_] => rfl
  | a :: b :: l => by
    have ih := rises_iff (b :: l)
    show (decide (a < b) && Vbcead.rises (b :: l)) = decide ((((a, b) :: ((b :: l).dropLast.zip l)).filter (fun p => decide (p.2 ≤ p.1))) = [])
    rw [ih, List.filter_cons]
    by_cases h : a < b
    · rw [if_neg (by simpa using h), decide_eq_true h, Bool.true_and]
      rfl
    · rw [if_pos (by simpa using h), decide_eq_false h, Bool.false_and]
      rfl
theorem linesOk_is (n : Nat) (l : List Int) : linesOk n l = (Vbcead.rises l && l.all fun i => isBetween i 0 ((n : Int) - 1)) := by
  unfold linesOk
  rw [← rises_iff, Bool.and_comm]
  congr 1
  rw [Bool.eq_iff_iff, decide_eq_true_eq, List.filter_eq_nil_iff, List.all_eq_true]
  refine ⟨fun h i hi => ?_, fun h i hi => ?_⟩
  · have := h i hi
    rw [Bool.or_eq_true, decide_eq_true_eq, decide_eq_true_eq] at this
    exact btw.mpr (by omega)
  · have := btw.mp (h i hi)
    rw [Bool.or_eq_true, decide_eq_true_eq, decide_eq_true_eq]
    omega
theorem prod_is (x : Nat) : ∀ (l : List Int) (v : Int), (∀ i ∈ l, 0 ≤ i) → l.foldl (fun v i => v * ((x : Int) - i)) v = (l.map Int.toNat).foldl (fun (v : Int) (i : Nat) => v * ((x : Int) - (i : Int))) v
  | [], _, _ => rfl
  | i :: l, v, h => by
    show l.foldl _ (v * ((x : Int) - i)) = (l.map Int.toNat).foldl _ (v * ((x : Int) - ((i.toNat : Nat) : Int)))
    rw [Int.toNat_of_nonneg (h i List.mem_cons_self)]
    exact prod_is x l _ fun j hj => h j (List.mem_cons_of_mem _ hj)
theorem law_rival (rep : Rep s m) (good : Good m) (l : List Int) : Ans m (rivalF m l) (Vbcead.step s [[18], l]) := by
  unfold rivalF
  rw [rep.lines, linesOk_is]
  have hin : Vbcead.inRange s (.rival l) = (decide (l.length ≤ 6) && (Vbcead.rises l && l.all fun i => isBetween i 0 ((s.sheet.length : Int) - 1))) := rfl
  by_cases h : l.length ≤ 6 ∧ (Vbcead.rises l && l.all fun i => isBetween i 0 ((s.sheet.length : Int) - 1)) = true
  · refine ans_same rep good (if_pos h) ((step_ok (d := .rival l) rfl (by rw [hin, decide_eq_true h.1, h.2] <;> rfl)).trans ?_)
    show (s, Vbcead.listRow (Vbcead.rival s.sheet.length (l.map Int.toNat))) = (s, toldM (rivalL s.sheet.length l))
    have e : Vbcead.rival s.sheet.length (l.map Int.toNat) = rivalL s.sheet.length l := by
      unfold Vbcead.rival rivalL prodM
      refine List.map_congr_left fun x _ => (prod_is x l 1 fun i hi => ?_).symm
      have := List.all_eq_true.mp (Bool.and_eq_true_iff.mp h.2).2 i hi
      exact (btw.mp this).1
    rw [e]
    rfl
  · refine ans_no rep good (if_neg h) (step_no (d := .rival l) rfl ?_)
    rw [hin]
    cases e : (decide (l.length ≤ 6) && (Vbcead.rises l && l.all fun i => isBetween i 0 ((s.sheet.length : Int) - 1))) with
    | false => rfl
    | true =>
      obtain ⟨e1, e2⟩ := Bool.and_eq_true_iff.mp e
      exact absurd ⟨of_decide_eq_true e1, e2⟩ h
theorem zipIdx_map {α β : Type} (l : List α) (d : α) (f : α × Nat → β) : l.zipIdx.map f = (List.range l.length).map fun i => f (l.getD i d, i) := by
  refine List.ext_getElem? fun i => ?_
  rw [List.getElem?_map, List.getElem?_map, List.getElem?_zipIdx]
  by_cases h : i < l.length
  · rw [List.getElem?_range h, List.getElem?_eq_getElem h]
    show some (f (l[i], 0 + i)) = some (f (l.getD i d, i))
    rw [Nat.zero_add, List.getD_eq_getElem?_getD, List.getElem?_eq_getElem h] <;> rfl
  · rw [List.getElem?_eq_none (by omega), List.getElem?_eq_none (by rw [List.length_range]; omega)] <;> rfl
theorem halfway_is (k : Nat) (l : List Int) : halfwayTo k l ((l.length - k + 2) / 2) = (Vbcead.halfway k l).2 := by
  unfold halfwayTo Vbcead.halfway
  show _ = l.zipIdx.map _
  rw [zipIdx_map l 0]
  refine List.map_congr_left fun x hx => ?_
  have hx := List.mem_range.mp hx
  show (if _ then _ else _) = (if k - 1 ≤ x ∧ x < k - 1 + (l.length - k + 2) / 2 then _ else _)
  congr 1
  show l.getD x 0 + _ = l.getD x 0 + (Vbcead.rival l.length (List.range (k - 1))).getD x 0
  congr 1
  unfold Vbcead.rival prodM
  rw [List.getD_eq_getElem?_getD, List.getElem?_map, List.getElem?_range hx]
  show List.foldl _ 1 (List.map _ _) = List.foldl _ 1 (List.range (k - 1))
  rw [List.foldl_map]
theorem law_halfway (rep : Rep s m) (good : Good m) (k : Int) : Ans m (halfwayF m k) (Vbcead.step s [[19, k]]) := by
  unfold halfwayF
  rw [rep.lines]
  by_cases h : 1 ≤ k ∧ k ≤ 7
  · rw [if_pos h]
    have e := step_ok (s := s) (c := [[19, k]]) (d := .halfway k) rfl (btw.mpr h)
    by_cases h2 : k + 0 ≤ (s.sheet.length : Int)
    · rw [if_pos h2]
      have e := e.trans (on_many (f := if Vbcead.clean k.toNat s.sheet = false then Vbcead.no s 7 else (s, ((Vbcead.halfway k.toNat s.sheet).1 : Int) :: ((Vbcead.halfway k.toNat s.sheet).2.length : Int) :: (Vbcead.halfway k.toNat s.sheet).2)) (by omega))
      cases hc : Vbcead.clean k.toNat s.sheet with
      | true =>
        rw [hc] at e
        refine ans_same rep good (if_pos rfl) (e.trans ?_)
        show (s, _) = (s, _)
        unfold halfwayL
        rw [← halfway_is, halfwayTo_len] <;> rfl
      | false =>
        rw [hc] at e
        exact ans_no rep good (if_neg (by decide)) e
    · exact ans_no rep good (if_neg h2) (e.trans (on_few (by omega)))
  · exact ans_no rep good (if_neg h) (step_no (d := .halfway k) rfl (btwN h))
end
end CE
namespace CE
open VbceCore
/-! ### clerk -/
theorem diffOnce_at : ∀ (l : List Int) (j : Nat), j + 1 < l.length → (Vbcead.differencesOnce l).getD j 0 = l.getD (j + 1) 0 - l.getD j 0
  | [], _, h => absurd h (Nat.not_lt_zero _)
  | [_], _, h => by simp at h
  | a :: b :: l, 0, _ => rfl
  | a :: b :: l, j + 1, h => diffOnce_at (b :: l) j (by simpa using h)
theorem getD_over {l : List Int} {j : Nat} (h : l.length ≤ j) : l.getD j 0 = 0 := by
  rw [List.getD_eq_getElem?_getD, List.getElem?_eq_none h] <;> rfl
theorem chStep_at (l : List Int) (j : Nat) : (chStep l).getD j 0 = l.getD j 0 - (if j = 0 then 0 else l.getD (j - 1) 0) := by
  by_cases h : j < l.length + 1
  · unfold chStep
    rw [List.getD_eq_getElem?_getD, List.getElem?_map]
    have hz : ((l ++ [0]).zip ((0 : Int) :: l))[j]? = some (l.getD j 0, if j = 0 then 0 else l.getD (j - 1) 0) := by
      rw [List.getElem?_zip_eq_some]
      refine ⟨?_, ?_⟩
      · by_cases q : j < l.length
        · rw [List.getElem?_append_left q, List.getD_eq_getElem?_getD, List.getElem?_eq_getElem q] <;> rfl
        · rw [getD_over (by omega), List.getElem?_append_right (by omega), show j - l.length = 0 by omega] <;> rfl
      · cases j with
        | zero => rfl
        | succ j =>
          show l[j]? = some (l.getD j 0)
          rw [List.getD_eq_getElem?_getD, List.getElem?_eq_getElem (by omega)] <;> rfl
    rw [hz] <;> rfl
  · rw [getD_over (by rw [chStep_len]; omega), getD_over (l := l) (by omega), if_neg (by omega), getD_over (by omega)] <;> rfl
/-- the pattern of a slip at i, at a place -/
def patAt (k i j : Nat) : Int := if j ≤ i ∧ i ≤ j + k then (chM k).getD (k + j - i) 0 else 0
theorem pattern_len (k n i : Nat) : (Vbcead.pattern k n i).length = n - k := by
  unfold Vbcead.pattern
  rw [diffs_len, List.length_map, List.length_range]
theorem pattern_at (n i : Nat) : ∀ (k j : Nat), j < n - k → (Vbcead.pattern k n i).getD j 0 = patAt k i j
  | 0, j, h => by
    show (List.map _ (List.range n)).getD j 0 = _
    rw [List.getD_eq_getElem?_getD, List.getElem?_map, List.getElem?_range (by omega)]
    show (if j = i then (1 : Int) else 0) = patAt 0 i j
    unfold patAt
    by_cases q : j = i
    · subst q
      rw [if_pos rfl, if_pos ⟨Nat.le_refl _, Nat.le_refl _⟩, show 0 + j - j = 0 by omega] <;> rfl
    · rw [if_neg q, if_neg (by omega)]
  | k + 1, j, h => by
    have e : Vbcead.pattern (k + 1) n i = Vbcead.differencesOnce (Vbcead.pattern k n i) := diffs_succ k _
    rw [e, diffOnce_at _ _ (by rw [pattern_len]; omega), pattern_at n i k (j + 1) (by omega), pattern_at n i k j (by omega)]
    have es : chM (k + 1) = chStep (chM k) := rfl
    unfold patAt
    rw [es]
    by_cases h1 : j ≤ i ∧ i ≤ j + (k + 1)
    · rw [if_pos h1, chStep_at]
      by_cases h2 : j = i
      · rw [if_neg (by omega), if_pos (by omega), if_neg (by omega), getD_over (l := chM k) (j := k + 1 + j - i) (by rw [chM_len]; omega), show k + 1 + j - i - 1 = k + j - i by omega]
      · by_cases h3 : i = j + (k + 1)
        · rw [if_pos (by omega), if_neg (by omega), if_pos (by omega), show k + (j + 1) - i = k + 1 + j - i by omega]
        · rw [if_pos (by omega), if_pos (by omega), if_neg (by omega), show k + (j + 1) - i = k + 1 + j - i by omega, show k + 1 + j - i - 1 = k + j - i by omega]
    · rw [if_neg h1, if_neg (by omega), if_neg (by omega)] <;> rfl
theorem due_is (k : Nat) (e : Int) (i j : Nat) : dueAt (chM k) e i j = e * patAt k i j := by
  unfold dueAt patAt
  rw [chM_len]
  show (if j ≤ i ∧ i ≤ j + k then _ else _) = _
  by_cases h : j ≤ i ∧ i ≤ j + k
  · rw [if_pos h, if_pos h] <;> rfl
  · rw [if_neg h, if_neg h, Int.mul_zero]
theorem pat_ne {k i j : Nat} (hk : k ≤ 7) (h : j ≤ i ∧ i ≤ j + k) : patAt k i j ≠ 0 := by
  unfold patAt
  rw [if_pos h]
  have hl : k + j - i < (chM k).length := by rw [chM_len]; omega
  rw [List.getD_eq_getElem?_getD, List.getElem?_eq_getElem hl]
  exact (chM_ok k hk _ (List.getElem_mem hl)).1
theorem find_zip {d p : List Int} {a : Nat} (h1 : d.length = p.length) (ha : a < p.length) (h2 : p.getD a 0 ≠ 0) (h3 : ∀ j, j < a → p.getD j 0 = 0) : ((d.zip p).find? fun x => x.2 != 0) = some (d.getD a 0, p.getD a 0) := by
  rw [List.find?_eq_some_iff_getElem]
  refine ⟨bne_iff_ne.mpr h2, a, by rw [List.length_zip]; omega, ?_, fun j hj => ?_⟩
  · rw [List.getElem_zip, List.getD_eq_getElem?_getD, List.getD_eq_getElem?_getD, List.getElem?_eq_getElem ha, List.getElem?_eq_getElem (by omega)] <;> rfl
  · rw [List.getElem_zip]
    have := h3 j hj
    rw [List.getD_eq_getElem?_getD, List.getElem?_eq_getElem (by omega)] at this
    have this : p[j] = 0 := this
    show (!(p[j] != 0)) = true
    rw [this] <;> rfl
/-- one slip: both ways say the same -/
theorem slip_is {k : Nat} {l : List Int} (hk : k ≤ 7) (hl : k < l.length) {i : Nat} (hi : i < l.length) :
    (match ((Vbcead.differences k l).zip (Vbcead.pattern k l.length i)).find? fun x => x.2 != 0 with
      | none => none
      | some x => if x.1 / x.2 ≠ 0 ∧ Vbcead.differences k l = (Vbcead.pattern k l.length i).map (fun z => z * (x.1 / x.2)) then some (i, x.1 / x.2) else none) =
    (if slipM (chM k) (Vbcead.differences k l) i ≠ 0 then some (i, slipM (chM k) (Vbcead.differences k l) i) else none) := by
  have hd : (Vbcead.differences k l).length = l.length - k := diffs_len k l
  have hp := pattern_len k l.length i
  have hpat : ∀ j, j < l.length - k → (Vbcead.pattern k l.length i).getD j 0 = patAt k i j := fun j hj => pattern_at l.length i k j hj
  have ha : i - k < l.length - k := by omega
  have hne : patAt k i (i - k) ≠ 0 := pat_ne hk (by omega)
  rw [find_zip (a := i - k) (by rw [hd, hp]) (by rw [hp]; exact ha) (by rw [hpat _ ha]; exact hne) (fun j hj => by
    rw [hpat _ (by omega)]
    unfold patAt
    rw [if_neg (by omega)])]
  show (if _ then _ else _) = _
  rw [hpat _ ha]
  have eE : slipE (chM k) (Vbcead.differences k l) i = ((Vbcead.differences k l).getD (i - k) 0).fdiv (patAt k i (i - k)) := by
    unfold slipE patAt
    rw [chM_len, if_pos (by omega)] <;> rfl
  have all_iff : ∀ e : Int, (Vbcead.differences k l = (Vbcead.pattern k l.length i).map (fun z => z * e)) ↔ ∀ j, j < l.length - k → (Vbcead.differences k l).getD j 0 = e * patAt k i j := fun e => by
    refine ⟨fun h j hj => ?_, fun h => ?_⟩
    · rw [h, List.getD_eq_getElem?_getD, List.getElem?_map, List.getElem?_eq_getElem (by omega)]
      show (Vbcead.pattern k l.length i)[j] * e = _
      have := hpat j hj
      rw [List.getD_eq_getElem?_getD, List.getElem?_eq_getElem (by omega)] at this
      rw [show (Vbcead.pattern k l.length i)[j] = patAt k i j from this, Int.mul_comm]
    · refine List.ext_getElem? fun j => ?_
      rw [List.getElem?_map]
      by_cases hj : j < l.length - k
      · have h1 := h j hj
        have h2 := hpat j hj
        rw [List.getD_eq_getElem?_getD, List.getElem?_eq_getElem (by omega)] at h1 h2
        rw [List.getElem?_eq_getElem (by omega), List.getElem?_eq_getElem (by omega)]
        have h1 : (Vbcead.differences k l)[j] = e * patAt k i j := h1
        have h2 : (Vbcead.pattern k l.length i)[j] = patAt k i j := h2
        rw [h1]
        show _ = some ((Vbcead.pattern k l.length i)[j] * e)
        rw [h2, Int.mul_comm]
      · rw [List.getElem?_eq_none (by omega), List.getElem?_eq_none (by omega)] <;> rfl
  have m_iff : ∀ e : Int, (((List.range (Vbcead.differences k l).length).all fun j => decide ((Vbcead.differences k l).getD j 0 = dueAt (chM k) e i j)) = true) ↔ ∀ j, j < l.length - k → (Vbcead.differences k l).getD j 0 = e * patAt k i j := fun e => by
    rw [List.all_eq_true, hd]
    refine ⟨fun h j hj => ?_, fun h j hj => ?_⟩
    · have := of_decide_eq_true (h j (List.mem_range.mpr hj))
      rw [due_is] at this
      exact this
    · refine decide_eq_true ?_
      rw [due_is]
      exact h j (List.mem_range.mp hj)
  generalize hD : (Vbcead.differences k l).getD (i - k) 0 = D at eE ⊢
  by_cases dv : patAt k i (i - k) ∣ D
  · -- it goes without a rest: the same number
    have ee : D.fdiv (patAt k i (i - k)) = D / patAt k i (i - k) := by
      obtain ⟨c, rfl⟩ := dv
      rw [Int.mul_fdiv_cancel_left _ hne, Int.mul_ediv_cancel_left _ hne]
    unfold slipM
    rw [eE, ee]
    generalize D / patAt k i (i - k) = e
    by_cases hA : ∀ j, j < l.length - k → (Vbcead.differences k l).getD j 0 = e * patAt k i j
    · rw [if_pos ((m_iff e).mpr hA)]
      by_cases h0 : e ≠ 0
      · rw [if_pos ⟨h0, (all_iff e).mpr hA⟩, if_pos h0]
      · rw [if_neg fun z => h0 z.1, if_neg h0]
    · rw [if_neg fun z => hA ((m_iff e).mp z), if_neg fun z => hA ((all_iff e).mp z.2), if_neg (by decide)]
  · have no : ∀ e : Int, ¬ ∀ j, j < l.length - k → (Vbcead.differences k l).getD j 0 = e * patAt k i j := fun e h => by
      have := h (i - k) ha
      rw [hD] at this
      exact dv ⟨e, by rw [this, Int.mul_comm]⟩
    unfold slipM
    rw [if_neg fun z => no _ ((m_iff _).mp z), if_neg fun z => no _ ((all_iff _).mp z.2), if_neg (by decide)]
theorem clerk_is {k : Nat} {l : List Int} (hk : k ≤ 7) (hl : k < l.length) (hc : Vbcead.clean k l = false) : clerkM k l = match Vbcead.clerk k l with
    | none => []
    | some x => [(x.1 : Int), x.2] := by
  have e : Vbcead.clerk k l = (List.range l.length).findSome? fun i => if slipM (chM k) (Vbcead.differences k l) i ≠ 0 then some (i, slipM (chM k) (Vbcead.differences k l) i) else none := by
    unfold Vbcead.clerk
    show (if Vbcead.isZero (Vbcead.differences k l) = true then none else _) = _
    rw [if_neg (by rw [show Vbcead.isZero (Vbcead.differences k l) = false from hc]; decide)]
    have : ∀ (r : List Nat), (∀ i ∈ r, i < l.length) → (r.findSome? fun i => match ((Vbcead.differences k l).zip (Vbcead.pattern k l.length i)).find? fun x => x.2 != 0 with
        | none => none
        | some x => if x.1 / x.2 ≠ 0 ∧ Vbcead.differences k l = (Vbcead.pattern k l.length i).map (fun z => z * (x.1 / x.2)) then some (i, x.1 / x.2) else none) =
        r.findSome? fun i => if slipM (chM k) (Vbcead.differences k l) i ≠ 0 then some (i, slipM (chM k) (Vbcead.differences k l) i) else none := fun r => by
      induction r with
      | nil => intro _; rfl
      | cons i r ih =>
        intro h
        rw [List.findSome?_cons, List.findSome?_cons, slip_is hk hl (h i List.mem_cons_self), ih fun j hj => h j (List.mem_cons_of_mem _ hj)]
    exact this _ fun i hi => List.mem_range.mp hi
  rw [e]
  unfold clerkM
  induction List.range l.length with
  | nil => rfl
  | cons i r ih =>
    rw [List.find?_cons, List.findSome?_cons]
    by_cases h : slipM (chM k) (Vbcead.differences k l) i ≠ 0
    · rw [if_pos h, decide_eq_true h]
    · rw [if_neg h, decide_eq_false h]
      exact ih
theorem law_clerk {s : Vbcead.State} {m : Dk} (rep : Rep s m) (good : Good m) (k : Int) : Ans m (clerkF m k) (Vbcead.step s [[15, k]]) := by
  unfold clerkF
  rw [rep.lines]
  by_cases h : 1 ≤ k ∧ k ≤ 7
  · rw [if_pos h]
    have e := step_ok (s := s) (c := [[15, k]]) (d := .clerk k) rfl (btw.mpr h)
    by_cases h2 : k + 1 ≤ (s.sheet.length : Int)
    · refine ans_same rep good (if_pos h2) (e.trans ((on_many (by omega)).trans ?_))
      show (s, _) = (s, _)
      congr 1
      unfold clerkL
      cases hc : Vbcead.clean k.toNat s.sheet with
      | true => rfl
      | false =>
        rw [clerk_is (by omega) (by omega) hc]
        cases Vbcead.clerk k.toNat s.sheet with
        | none => rfl
        | some x => rfl
    · exact ans_no rep good (if_neg h2) (e.trans (on_few (by omega)))
  · exact ans_no rep good (if_neg h) (step_no (d := .clerk k) rfl (btwN h))
end CE
namespace CE
/-! ### Sums and polynomials over fractions -/
def sm : Nat → (Nat → Rat) → Rat
  | 0, _ => 0
  | n + 1, f => sm n f + f n
theorem sm_congr {f g : Nat → Rat} : ∀ {n : Nat}, (∀ i, i < n → f i = g i) → sm n f = sm n g
  | 0, _ => rfl
  | n + 1, h => by
    show sm n f + f n = sm n g + g n
    rw [sm_congr fun i hi => h i (Nat.lt_succ_of_lt hi), h n (Nat.lt_succ_self n)]
theorem sm_add (f g : Nat → Rat) : ∀ n, sm n (fun i => f i + g i) = sm n f + sm n g
  | 0 => by show (0 : Rat) = 0 + 0; grind
  | n + 1 => by
    show sm n _ + (f n + g n) = (sm n f + f n) + (sm n g + g n)
    rw [sm_add f g n]
    grind
theorem sm_mul (c : Rat) (f : Nat → Rat) : ∀ n, sm n (fun i => c * f i) = c * sm n f
  | 0 => by show (0 : Rat) = c * 0; grind
  | n + 1 => by
    show sm n _ + c * f n = c * (sm n f + f n)
    rw [sm_mul c f n]
    grind
theorem sm_zero {f : Nat → Rat} : ∀ {n : Nat}, (∀ i, i < n → f i = 0) → sm n f = 0
  | 0, _ => rfl
  | n + 1, h => by
    show sm n f + f n = 0
    rw [sm_zero fun i hi => h i (Nat.lt_succ_of_lt hi), h n (Nat.lt_succ_self n)]
    grind
theorem sm_head (f : Nat → Rat) : ∀ n, sm (n + 1) f = f 0 + sm n fun i => f (i + 1)
  | 0 => by show (0 : Rat) + f 0 = f 0 + 0; grind
  | n + 1 => by
    show sm (n + 1) f + f (n + 1) = f 0 + (sm n (fun i => f (i + 1)) + f (n + 1))
    rw [sm_head f n]
    grind
theorem sm_comm (f : Nat → Nat → Rat) (m : Nat) : ∀ n, sm n (fun i => sm m (f i)) = sm m fun j => sm n fun i => f i j
  | 0 => by
    show (0 : Rat) = sm m fun j => 0
    exact (sm_zero fun _ _ => rfl).symm
  | n + 1 => by
    show sm n _ + sm m (f n) = sm m fun j => sm n (fun i => f i j) + f n j
    rw [sm_comm f m n, sm_add]
theorem sm_split (f : Nat → Rat) (n : Nat) : ∀ m, sm (n + m) f = sm n f + sm m fun i => f (n + i)
  | 0 => by show sm n f = sm n f + 0; grind
  | m + 1 => by
    show sm (n + m) f + f (n + m) = sm n f + (sm m (fun i => f (n + i)) + f (n + m))
    rw [sm_split f n m]
    grind
theorem sm_one {f : Nat → Rat} {j : Nat} : ∀ {n : Nat}, j < n → (∀ i, i < n → i ≠ j → f i = 0) → sm n f = f j
  | 0, h, _ => absurd h (Nat.not_lt_zero _)
  | n + 1, h, z => by
    show sm n f + f n = f j
    by_cases e : j = n
    · subst e
      rw [sm_zero fun i hi => z i (Nat.lt_succ_of_lt hi) (Nat.ne_of_lt hi)]
      grind
    · rw [sm_one (j := j) (by omega) fun i hi hne => z i (Nat.lt_succ_of_lt hi) hne, z n (Nat.lt_succ_self n) (Ne.symm e)]
      grind
/-- a polynomial by its d numbers -/
def pl (d : Nat) (c : Nat → Rat) (x : Rat) : Rat := sm d fun a => c a * x ^ a
theorem pl_head (d : Nat) (c : Nat → Rat) (x : Rat) : pl (d + 1) c x = c 0 + x * pl d (fun a => c (a + 1)) x := by
  unfold pl
  rw [sm_head, ← sm_mul]
  congr 1
  · rw [Rat.pow_zero]; grind
  · refine sm_congr fun i _ => ?_
    rw [Rat.pow_succ]
    grind
theorem pl_congr {d : Nat} {c e : Nat → Rat} (h : ∀ a, a < d → c a = e a) (x : Rat) : pl d c x = pl d e x := sm_congr fun a ha => by rw [h a ha]
theorem pl_zero {d : Nat} {c : Nat → Rat} (h : ∀ a, a < d → c a = 0) (x : Rat) : pl d c x = 0 := sm_zero fun a ha => by rw [h a ha]; grind
/-- divided by x - r -/
theorem synth (r : Rat) : ∀ (d : Nat) (c : Nat → Rat), ∃ q : Nat → Rat, (∀ x, pl (d + 1) c x = pl (d + 1) c r + (x - r) * pl d q x) ∧ ((∀ a, a < d → q a = 0) → ∀ a, 1 ≤ a → a < d + 1 → c a = 0)
  | 0, c => ⟨c, fun x => by
      rw [pl_head, pl_head]
      show c 0 + x * 0 = c 0 + r * 0 + (x - r) * 0
      grind, fun _ a h1 h2 => by omega⟩
  | d + 1, c => by
    obtain ⟨q, h1, h2⟩ := synth r d fun a => c (a + 1)
    refine ⟨fun a => match a with | 0 => pl (d + 1) (fun a => c (a + 1)) r | a + 1 => q a, fun x => ?_, fun hz a ha1 ha2 => ?_⟩
    · rw [pl_head (d + 1) c x, pl_head (d + 1) c r, pl_head d (fun a => match a with | 0 => pl (d + 1) (fun a => c (a + 1)) r | a + 1 => q a) x, h1 x]
      show c 0 + x * (pl (d + 1) (fun a => c (a + 1)) r + (x - r) * pl d q x) = c 0 + r * pl (d + 1) (fun a => c (a + 1)) r + (x - r) * (pl (d + 1) (fun a => c (a + 1)) r + x * pl d q x)
      grind
    · have z0 : pl (d + 1) (fun a => c (a + 1)) r = 0 := hz 0 (by omega)
      have zc := h2 fun a ha => hz (a + 1) (by omega)
      by_cases e : a = 1
      · subst e
        rw [pl_head, pl_zero fun a ha => zc (a + 1) (by omega) (by omega)] at z0
        have : c (0 + 1) + r * 0 = 0 := z0
        show c (0 + 1) = 0
        grind
      · have := zc (a - 1) (by omega) (by omega)
        rw [show a - 1 + 1 = a by omega] at this
        exact this
theorem roots : ∀ (rs : List Nat) (c : Nat → Rat), rs.Nodup → (∀ r ∈ rs, pl rs.length c (r : Rat) = 0) → ∀ a, a < rs.length → c a = 0
  | [], _, _, _, a, h => absurd h (Nat.not_lt_zero _)
  | r :: rs, c, nd, hz, a, ha => by
    obtain ⟨nr, nd⟩ := List.nodup_cons.mp nd
    obtain ⟨q, h1, h2⟩ := synth (r : Rat) rs.length c
    have z0 : pl (rs.length + 1) c (r : Rat) = 0 := hz r List.mem_cons_self
    have zq : ∀ a, a < rs.length → q a = 0 := roots rs q nd fun x hx => by
      have hx0 : pl (rs.length + 1) c (x : Rat) = 0 := hz x (List.mem_cons_of_mem _ hx)
      rw [h1, z0] at hx0
      have hne : (x : Rat) - (r : Rat) ≠ 0 := fun z => by
        have : (x : Rat) = (r : Rat) := by grind
        have : x = r := by exact_mod_cast this
        exact nr (this ▸ hx)
      grind
    have zc := h2 zq
    by_cases e : a = 0
    · subst e
      rw [pl_head, pl_zero fun a ha => zc (a + 1) (by omega) (by omega)] at z0
      grind
    · exact zc a (by omega) ha
end CE
namespace CE
/-- a polynomial of a degree below d -/
def Pd (d : Nat) (f : Rat → Rat) : Prop := ∃ c, ∀ x, f x = pl d c x
theorem pd_congr {d : Nat} {f g : Rat → Rat} (h : Pd d f) (e : ∀ x, g x = f x) : Pd d g := by
  obtain ⟨c, hc⟩ := h
  exact ⟨c, fun x => (e x).trans (hc x)⟩
theorem pd_zero (d : Nat) : Pd d fun _ => 0 := ⟨fun _ => 0, fun x => (pl_zero (fun _ _ => rfl) x).symm⟩
theorem pd_add {d : Nat} {f g : Rat → Rat} (h1 : Pd d f) (h2 : Pd d g) : Pd d fun x => f x + g x := by
  obtain ⟨c, hc⟩ := h1
  obtain ⟨e, he⟩ := h2
  refine ⟨fun a => c a + e a, fun x => ?_⟩
  show f x + g x = _
  rw [hc, he]
  unfold pl
  rw [← sm_add]
  refine sm_congr fun a _ => ?_
  grind
theorem pd_mul (k : Rat) {d : Nat} {f : Rat → Rat} (h : Pd d f) : Pd d fun x => k * f x := by
  obtain ⟨c, hc⟩ := h
  refine ⟨fun a => k * c a, fun x => ?_⟩
  show k * f x = _
  rw [hc]
  unfold pl
  rw [← sm_mul]
  refine sm_congr fun a _ => ?_
  grind
theorem pd_x {d : Nat} {f : Rat → Rat} (h : Pd d f) : Pd (d + 1) fun x => x * f x := by
  obtain ⟨c, hc⟩ := h
  refine ⟨fun a => match a with | 0 => 0 | a + 1 => c a, fun x => ?_⟩
  rw [pl_head]
  show x * f x = 0 + x * pl d c x
  rw [hc]
  grind
theorem pd_up {d : Nat} {f : Rat → Rat} (h : Pd d f) : Pd (d + 1) f := by
  obtain ⟨c, hc⟩ := h
  refine ⟨fun a => if a < d then c a else 0, fun x => ?_⟩
  rw [hc]
  show _ = (sm d fun a => (if a < d then c a else 0) * x ^ a) + (if d < d then c d else 0) * x ^ d
  rw [if_neg (Nat.lt_irrefl d), show (sm d fun a => (if a < d then c a else 0) * x ^ a) = pl d c x from sm_congr fun a ha => by rw [if_pos ha]]
  grind
theorem pd_mono {d e : Nat} {f : Rat → Rat} (h : Pd d f) (l : d ≤ e) : Pd e f := by
  induction l with
  | refl => exact h
  | step _ ih => exact pd_up ih
theorem pd_const (k : Rat) : Pd 1 fun _ => k := ⟨fun _ => k, fun x => by rw [pl_head]; show k = k + x * 0; grind⟩
theorem pd_lin (a : Rat) {d : Nat} {f : Rat → Rat} (h : Pd d f) : Pd (d + 1) fun x => (x - a) * f x :=
  pd_congr (pd_add (pd_x h) (pd_up (pd_mul (-a) h))) fun x => by grind
theorem pd_pow : ∀ n, Pd (n + 1) fun x => x ^ n
  | 0 => pd_congr (pd_const 1) fun x => by rw [Rat.pow_zero]
  | n + 1 => pd_congr (pd_x (pd_pow n)) fun x => by rw [Rat.pow_succ]; grind
theorem pd_none {f : Rat → Rat} (h : Pd 0 f) (x : Rat) : f x = 0 := by
  obtain ⟨c, hc⟩ := h
  exact hc x
/-- all but the first number -/
theorem pd_tail {d : Nat} {f : Rat → Rat} (h : Pd (d + 1) f) : ∃ (a : Rat) (g : Rat → Rat), Pd d g ∧ ∀ x, f x = a + x * g x := by
  obtain ⟨c, hc⟩ := h
  exact ⟨c 0, pl d fun a => c (a + 1), ⟨_, fun _ => rfl⟩, fun x => (hc x).trans (pl_head d c x)⟩
theorem pd_prod {e : Nat} {g : Rat → Rat} (h2 : Pd e g) : ∀ {d : Nat} {f : Rat → Rat}, Pd (d + 1) f → Pd (d + e) fun x => f x * g x
  | 0, f, h => by
    obtain ⟨a, f', h', e'⟩ := pd_tail h
    refine pd_congr (pd_mono (pd_mul a h2) (by omega)) fun x => ?_
    rw [e', pd_none h']
    grind
  | d + 1, f, h => by
    obtain ⟨a, f', h', e'⟩ := pd_tail h
    have ih := pd_x (pd_prod h2 h')
    refine pd_congr (pd_add (pd_mono (pd_mul a h2) (by omega : e ≤ d + 1 + e)) (pd_mono ih (by omega))) fun x => ?_
    rw [e']
    grind
theorem pd_shift : ∀ {d : Nat} {f : Rat → Rat}, Pd d f → Pd d fun x => f (x + 1)
  | 0, f, h => pd_congr (pd_zero 0) fun x => pd_none h _
  | d + 1, f, h => by
    obtain ⟨a, g, h', e'⟩ := pd_tail h
    have ih := pd_shift h'
    refine pd_congr (pd_add (pd_mono (pd_const a) (by omega : 1 ≤ d + 1)) (pd_add (pd_x ih) (pd_up ih))) fun x => ?_
    rw [e']
    grind
theorem pd_diff : ∀ {d : Nat} {f : Rat → Rat}, Pd (d + 1) f → Pd d fun x => f x - f (x + 1)
  | 0, f, h => by
    obtain ⟨a, g, h', e'⟩ := pd_tail h
    refine pd_congr (pd_zero 0) fun x => ?_
    rw [e', e', pd_none h', pd_none h']
    grind
  | d + 1, f, h => by
    obtain ⟨a, g, h', e'⟩ := pd_tail h
    refine pd_congr (pd_add (pd_x (pd_diff h')) (pd_mul (-1) (pd_shift h'))) fun x => ?_
    rw [e', e']
    grind
/-- zero at d lines: zero -/
theorem pd_roots {d : Nat} {f : Rat → Rat} (h : Pd d f) {rs : List Nat} (nd : rs.Nodup) (hl : d ≤ rs.length) (hz : ∀ r ∈ rs, f (r : Rat) = 0) (x : Rat) : f x = 0 := by
  obtain ⟨c, hc⟩ := pd_mono h hl
  rw [hc]
  exact pl_zero (roots rs c nd fun r hr => (hc r).symm.trans (hz r hr)) x
theorem pd_same {d : Nat} {f g : Rat → Rat} (h1 : Pd d f) (h2 : Pd d g) {rs : List Nat} (nd : rs.Nodup) (hl : d ≤ rs.length) (hz : ∀ r ∈ rs, f (r : Rat) = g (r : Rat)) (x : Rat) : f x = g x := by
  have := pd_roots (pd_add h1 (pd_mul (-1) h2)) nd hl (fun r hr => by show f _ + -1 * g _ = 0; rw [hz r hr]; grind) x
  have this : f x + -1 * g x = 0 := this
  grind
/-- the polynomial that is 0 at some lines, 1 in front -/
def zp : List Nat → Rat → Rat
  | [], _ => 1
  | e :: es, x => (x - (e : Rat)) * zp es x
theorem zp_monic : ∀ es : List Nat, ∃ c, ∀ x, zp es x = x ^ es.length + pl es.length c x
  | [] => ⟨fun _ => 0, fun x => by show (1 : Rat) = x ^ 0 + 0; rw [Rat.pow_zero]; grind⟩
  | e :: es => by
    obtain ⟨c, hc⟩ := zp_monic es
    have h : Pd (es.length + 1) fun x => x * pl es.length c x + -(e : Rat) * (x ^ es.length + pl es.length c x) :=
      pd_add (pd_x ⟨c, fun _ => rfl⟩) (pd_mul _ (pd_add (pd_pow es.length) (pd_up ⟨c, fun _ => rfl⟩)))
    obtain ⟨c', hc'⟩ := h
    refine ⟨c', fun x => ?_⟩
    show (x - (e : Rat)) * zp es x = x ^ (es.length + 1) + pl (es.length + 1) c' x
    rw [← hc', hc, Rat.pow_succ]
    grind
theorem zp_pd : ∀ es : List Nat, Pd (es.length + 1) (zp es)
  | [] => pd_const 1
  | e :: es => pd_lin (e : Rat) (zp_pd es)
theorem cast_inj {a b : Nat} (h : (a : Rat) = (b : Rat)) : a = b := by exact_mod_cast h
theorem zp_zero : ∀ (es : List Nat) (i : Nat), zp es (i : Rat) = 0 ↔ i ∈ es
  | [], i => by
    show (1 : Rat) = 0 ↔ i ∈ []
    refine ⟨fun z => absurd z (by decide), fun z => nomatch z⟩
  | e :: es, i => by
    show ((i : Rat) - (e : Rat)) * zp es (i : Rat) = 0 ↔ i ∈ e :: es
    rw [List.mem_cons, ← zp_zero es i]
    refine ⟨fun h => ?_, fun h => ?_⟩
    · by_cases q : i = e
      · exact .inl q
      · refine .inr ?_
        have : (i : Rat) - (e : Rat) ≠ 0 := fun z => q (cast_inj (by grind))
        grind
    · rcases h with rfl | h
      · grind
      · rw [h]; grind
end CE
namespace CE
/-! ### Equations with just one answer: the way by steps finds it -/
def clearedR (p : List Rat) (i : Nat) (r : List Rat) : List Rat := if r.getD i 0 = 0 then r else (r.zip p).map fun a => a.1 - (r.getD i 0 / p.getD i 0) * a.2
def pivotR (i : Nat) : List (List Rat) → Option (List Rat × List (List Rat))
  | [] => none
  | r :: l => if r.getD i 0 ≠ 0 then some (r, l) else (pivotR i l).map fun x => (x.1, r :: x.2)
def stepsR : Nat → Nat → List (List Rat) → Option (List (List Rat) × List (List Rat))
  | 0, _, m => some ([], m)
  | f + 1, i, m => match pivotR i m with
    | none => none
    | some x => (stepsR f (i + 1) (x.2.map (clearedR x.1 i))).map fun y => (x.1 :: y.1, y.2)
def sumR (l : List Rat) : Rat := l.foldl (· + ·) 0
def backR : Nat → List (List Rat) → List Rat
  | _, [] => []
  | i, r :: l => (r.getD (i + (backR (i + 1) l).length + 1) 0 - sumR (((r.drop (i + 1)).zip (backR (i + 1) l)).map fun x => x.1 * x.2)) / r.getD i 0 :: backR (i + 1) l
def solvedR (n : Nat) (m : List (List Rat)) : Option (List Rat) := match stepsR n 0 m with
  | none => none
  | some x => if (x.2.all fun r => decide (r.getD n 0 = 0)) = true then some (backR 0 x.1) else none
def dot (N : Nat) (r : List Rat) (v : Nat → Rat) : Rat := sm N fun j => r.getD j 0 * v j
theorem getD_zip {r p : List Rat} (h : r.length = p.length) (q : Rat) (j : Nat) : ((r.zip p).map fun a => a.1 - q * a.2).getD j 0 = r.getD j 0 - q * p.getD j 0 := by
  rw [List.getD_eq_getElem?_getD, List.getD_eq_getElem?_getD, List.getD_eq_getElem?_getD, List.getElem?_map]
  by_cases hj : j < r.length
  · have hz : (r.zip p)[j]? = some (r[j], p[j]) := by rw [List.getElem?_zip_eq_some]; exact ⟨List.getElem?_eq_getElem hj, List.getElem?_eq_getElem (by omega)⟩
    rw [hz, List.getElem?_eq_getElem hj, List.getElem?_eq_getElem (by omega)] <;> rfl
  · rw [List.getElem?_eq_none (by rw [List.length_zip]; omega), List.getElem?_eq_none (by omega), List.getElem?_eq_none (by omega)]
    show (0 : Rat) = 0 - q * 0
    grind
theorem clearedR_at {r p : List Rat} {i : Nat} (h : r.length = p.length) (j : Nat) : (clearedR p i r).getD j 0 = r.getD j 0 - (r.getD i 0 / p.getD i 0) * p.getD j 0 := by
  unfold clearedR
  by_cases z : r.getD i 0 = 0
  · rw [if_pos z, z]
    grind
  · rw [if_neg z, getD_zip h]
theorem clearedR_len {r p : List Rat} {i : Nat} (h : r.length = p.length) : (clearedR p i r).length = r.length := by
  unfold clearedR
  split
  · rfl
  · rw [List.length_map, List.length_zip]; omega
theorem dot_cleared {r p : List Rat} {i : Nat} (h : r.length = p.length) (N : Nat) (v : Nat → Rat) : dot N (clearedR p i r) v = dot N r v - (r.getD i 0 / p.getD i 0) * dot N p v := by
  unfold dot
  rw [← sm_mul, show ∀ a b : Rat, a - b = a + (-1) * b from fun a b => by grind, ← sm_mul, ← sm_add]
  refine sm_congr fun j _ => ?_
  rw [clearedR_at h]
  grind
theorem pivotR_some {i : Nat} : ∀ {m : List (List Rat)} {x : List Rat × List (List Rat)}, pivotR i m = some x → x.1.getD i 0 ≠ 0 ∧ ∀ r, r ∈ m ↔ (r = x.1 ∨ r ∈ x.2)
  | [], _, h => nomatch h
  | r :: l, x, h => by
    unfold pivotR at h
    by_cases q : r.getD i 0 ≠ 0
    · rw [if_pos q] at h
      obtain rfl := Option.some.inj h
      exact ⟨q, fun s => List.mem_cons⟩
    · rw [if_neg q] at h
      obtain ⟨y, hy, rfl⟩ := Option.map_eq_some_iff.mp h
      obtain ⟨h1, h2⟩ := pivotR_some hy
      refine ⟨h1, fun s => ?_⟩
      rw [List.mem_cons, h2]
      show _ ↔ s = y.1 ∨ s ∈ r :: y.2
      rw [List.mem_cons]
      exact ⟨fun z => z.elim (fun e => .inr (.inl e)) fun z => z.elim .inl fun e => .inr (.inr e), fun z => z.elim (fun e => .inr (.inl e)) fun z => z.elim .inl fun e => .inr (.inr e)⟩
theorem pivotR_none {i : Nat} : ∀ {m : List (List Rat)}, pivotR i m = none → ∀ r ∈ m, r.getD i 0 = 0
  | [], _, r, hr => nomatch hr
  | r :: l, h, s, hs => by
    unfold pivotR at h
    by_cases q : r.getD i 0 ≠ 0
    · rw [if_pos q] at h; cases h
    · rw [if_neg q] at h
      rcases List.mem_cons.mp hs with rfl | hs
      · exact Decidable.not_not.mp q
      · exact pivotR_none (Option.map_eq_none_iff.mp h) s hs
/-- rows of N + 1 numbers, the first i of them 0 -/
def Wf (N i : Nat) (m : List (List Rat)) : Prop := ∀ r ∈ m, r.length = N + 1 ∧ ∀ j, j < i → r.getD j 0 = 0
theorem wf_next {N i : Nat} {m : List (List Rat)} {x : List Rat × List (List Rat)} (W : Wf N i m) (h : pivotR i m = some x) : Wf N (i + 1) (x.2.map (clearedR x.1 i)) := by
  obtain ⟨h1, h2⟩ := pivotR_some h
  obtain ⟨pl1, pz⟩ := W x.1 ((h2 x.1).mpr (.inl rfl))
  intro r hr
  obtain ⟨s, hs, rfl⟩ := List.mem_map.mp hr
  obtain ⟨sl, sz⟩ := W s ((h2 s).mpr (.inr hs))
  refine ⟨by rw [clearedR_len (by omega)]; exact sl, fun j hj => ?_⟩
  rw [clearedR_at (by omega)]
  by_cases e : j = i
  · subst e
    grind
  · rw [sz j (by omega), pz j (by omega)]
    grind
theorem steps_ok : ∀ (f i : Nat) (m : List (List Rat)) {N : Nat}, i + f = N → Wf N i m → (∀ v : Nat → Rat, (∀ j, j < i → v j = 0) → (∀ r ∈ m, dot N r v = 0) → ∀ j, j < N → v j = 0) → ∃ y, stepsR f i m = some y
  | 0, i, m, N, _, _, _ => ⟨_, rfl⟩
  | f + 1, i, m, N, hN, W, K => by
    unfold stepsR
    cases h : pivotR i m with
    | none =>
      exfalso
      have z := pivotR_none h
      have := K (fun j => if j = i then 1 else 0) (fun j hj => if_neg (by omega)) (fun r hr => by
        unfold dot
        refine sm_zero fun j _ => ?_
        show r.getD j 0 * (if j = i then 1 else 0) = 0
        by_cases e : j = i
        · subst e
          rw [z r hr]
          grind
        · rw [if_neg e]
          grind) i (by omega)
      rw [if_pos rfl] at this
      exact absurd this (by decide)
    | some x =>
      obtain ⟨h1, h2⟩ := pivotR_some h
      obtain ⟨pl1, pz⟩ := W x.1 ((h2 x.1).mpr (.inl rfl))
      have ⟨y, hy⟩ := steps_ok f (i + 1) (x.2.map (clearedR x.1 i)) (N := N) (by omega) (wf_next W h) (fun v v0 vk => by
        -- a vector for the rest is one for all, with one number put in
        have hdot : ∀ (r : List Rat) (c : Rat), dot N r (fun j => if j = i then c else v j) = r.getD i 0 * c + dot N r v := fun r c => by
          have e1 : dot N r (fun j => if j = i then c else v j) = sm N (fun j => (if j = i then r.getD i 0 * c else 0) + r.getD j 0 * v j) := sm_congr fun j _ => by
            show r.getD j 0 * (if j = i then c else v j) = (if j = i then r.getD i 0 * c else 0) + r.getD j 0 * v j
            by_cases e : j = i
            · subst e
              rw [if_pos rfl, if_pos rfl, v0 j (by omega)]
              grind
            · rw [if_neg e, if_neg e]
              grind
          rw [e1, sm_add, sm_one (j := i) (by omega) fun j _ hne => if_neg hne, if_pos rfl]
          rfl
        have hv := K (fun j => if j = i then -(dot N x.1 v) / x.1.getD i 0 else v j) (fun j hj => by
          show (if j = i then _ else _) = (0 : Rat)
          rw [if_neg (by omega)]
          exact v0 j (by omega)) (fun r hr => by
          rw [hdot]
          rcases (h2 r).mp hr with rfl | hr
          · grind
          · have hc := vk (clearedR x.1 i r) (List.mem_map.mpr ⟨r, hr, rfl⟩)
            obtain ⟨rl, rz⟩ := W r ((h2 r).mpr (.inr hr))
            rw [dot_cleared (by omega)] at hc
            grind)
        intro j hj
        by_cases e : j = i
        · exact v0 j (by omega)
        · have := hv j hj
          have this : (if j = i then _ else v j) = (0 : Rat) := this
          rw [if_neg e] at this
          exact this)
      exact ⟨(x.1 :: y.1, y.2), by show Option.map _ _ = _; rw [hy] <;> rfl⟩
/-- steps that hold of w -/
def Tri (N : Nat) (w : Nat → Rat) : Nat → List (List Rat) → Prop
  | i, [] => i = N
  | i, r :: l => i < N ∧ r.length = N + 1 ∧ (∀ j, j < i → r.getD j 0 = 0) ∧ r.getD i 0 ≠ 0 ∧ dot N r w = r.getD N 0 ∧ Tri N w (i + 1) l
theorem steps_sol {w : Nat → Rat} : ∀ (f i : Nat) (m : List (List Rat)) {N : Nat} {y : List (List Rat) × List (List Rat)}, i + f = N → Wf N i m → (∀ r ∈ m, dot N r w = r.getD N 0) → stepsR f i m = some y → Tri N w i y.1 ∧ ∀ r ∈ y.2, r.getD N 0 = 0
  | 0, i, m, N, y, hN, W, S, h => by
    obtain rfl := Option.some.inj h
    refine ⟨by show i = N; omega, fun r hr => ?_⟩
    rw [← S r hr]
    exact sm_zero fun j hj => by rw [(W r hr).2 j (by omega)]; grind
  | f + 1, i, m, N, y, hN, W, S, h => by
    unfold stepsR at h
    cases hp : pivotR i m with
    | none => rw [hp] at h; cases h
    | some x =>
      rw [hp] at h
      have h : Option.map (fun y => (x.1 :: y.1, y.2)) (stepsR f (i + 1) (x.2.map (clearedR x.1 i))) = some y := h
      obtain ⟨z, hz, rfl⟩ := Option.map_eq_some_iff.mp h
      obtain ⟨h1, h2⟩ := pivotR_some hp
      have hx := (h2 x.1).mpr (.inl rfl)
      obtain ⟨pl1, pz⟩ := W x.1 hx
      obtain ⟨q1, q2⟩ := steps_sol f (i + 1) _ (N := N) (by omega) (wf_next W hp) (fun r hr => by
        obtain ⟨s, hs, rfl⟩ := List.mem_map.mp hr
        have hs := (h2 s).mpr (.inr hs)
        obtain ⟨sl, sz⟩ := W s hs
        rw [dot_cleared (by omega), clearedR_at (by omega), S s hs, S x.1 hx]) hz
      exact ⟨⟨by omega, pl1, pz, h1, S x.1 hx, q1⟩, q2⟩
theorem sumR_range (f : Nat → Rat) : ∀ n, sumR ((List.range n).map f) = sm n f
  | 0 => rfl
  | n + 1 => by
    unfold sumR
    rw [List.range_succ, List.map_append, List.foldl_append]
    show sumR ((List.range n).map f) + f n = _
    rw [sumR_range f n]
    rfl
theorem zip_drop {r : List Rat} {a n : Nat} {g : Nat → Rat} (h : a + n ≤ r.length) : ((r.drop a).zip ((List.range n).map g)).map (fun x => x.1 * x.2) = (List.range n).map fun t => r.getD (a + t) 0 * g t := by
  refine List.ext_getElem? fun t => ?_
  rw [List.getElem?_map, List.getElem?_map]
  by_cases ht : t < n
  · have hz : ((r.drop a).zip ((List.range n).map g))[t]? = some (r.getD (a + t) 0, g t) := by
      rw [List.getElem?_zip_eq_some]
      refine ⟨?_, ?_⟩
      · rw [List.getElem?_drop, List.getD_eq_getElem?_getD, List.getElem?_eq_getElem (by omega)] <;> rfl
      · rw [List.getElem?_map, List.getElem?_range ht] <;> rfl
    rw [hz, List.getElem?_range ht] <;> rfl
  · rw [List.getElem?_eq_none (by rw [List.length_zip, List.length_map, List.length_range]; omega), List.getElem?_eq_none (by rw [List.length_range]; omega)] <;> rfl
theorem back_ok {N : Nat} {w : Nat → Rat} : ∀ (l : List (List Rat)) (i : Nat), Tri N w i l → i + l.length = N ∧ backR i l = (List.range (N - i)).map fun t => w (i + t)
  | [], i, h => by
    obtain rfl : i = N := h
    refine ⟨rfl, ?_⟩
    rw [Nat.sub_self] <;> rfl
  | r :: l, i, h => by
    obtain ⟨h1, h2, h3, h4, h5, h6⟩ := h
    obtain ⟨q1, q2⟩ := back_ok l (i + 1) h6
    refine ⟨by rw [List.length_cons]; omega, ?_⟩
    unfold backR
    rw [q2, List.length_map, List.length_range, zip_drop (by omega), sumR_range, show i + (N - (i + 1)) + 1 = N by omega]
    have e : N - i = (N - (i + 1)) + 1 := by omega
    rw [e, List.range_succ_eq_map, List.map_cons, List.map_map]
    congr 1
    · show _ = w i
      have hd : dot N r w = r.getD i 0 * w i + sm (N - (i + 1)) fun t => r.getD (i + 1 + t) 0 * w (i + 1 + t) := by
        unfold dot
        rw [show N = i + ((N - (i + 1)) + 1) by omega, sm_split, sm_head, sm_zero fun j hj => by rw [h3 j hj]; grind]
        rw [show i + ((N - (i + 1)) + 1) - (i + 1) = N - (i + 1) by omega]
        show 0 + (r.getD (i + 0) 0 * w (i + 0) + sm _ _) = _
        rw [Nat.add_zero]
        rw [show (sm (N - (i + 1)) fun t => r.getD (i + (t + 1)) 0 * w (i + (t + 1))) = sm (N - (i + 1)) fun t => r.getD (i + 1 + t) 0 * w (i + 1 + t) from sm_congr fun t _ => by rw [show i + (t + 1) = i + 1 + t by omega]]
        grind
      rw [h5] at hd
      rw [hd]
      grind
    · refine List.map_congr_left fun t _ => ?_
      show w (i + 1 + t) = w (i + (t + 1))
      rw [show i + 1 + t = i + (t + 1) by omega]
/-- the one answer is found -/
theorem solvedR_ok {N : Nat} {m : List (List Rat)} {w : Nat → Rat} (hl : ∀ r ∈ m, r.length = N + 1) (S : ∀ r ∈ m, dot N r w = r.getD N 0) (K : ∀ v : Nat → Rat, (∀ r ∈ m, dot N r v = 0) → ∀ j, j < N → v j = 0) : solvedR N m = some ((List.range N).map w) := by
  have W : Wf N 0 m := fun r hr => ⟨hl r hr, fun j hj => absurd hj (Nat.not_lt_zero _)⟩
  obtain ⟨y, hy⟩ := steps_ok N 0 m (by omega) W fun v _ hk => K v hk
  obtain ⟨h1, h2⟩ := steps_sol N 0 m (by omega) W S hy
  unfold solvedR
  rw [hy]
  show (if _ then _ else _) = _
  rw [if_pos (List.all_eq_true.mpr fun r hr => decide_eq_true (h2 r hr)), (back_ok y.1 0 h1).2, Nat.sub_zero]
  congr 1
  refine List.map_congr_left fun t _ => ?_
  rw [Nat.zero_add]
end CE
namespace CE
/-! ### The specification's fractions are fractions -/
def ph (q : Rat) : VbceCore.Frac := ⟨q.num, q.den⟩
theorem ph_inj {a b : Rat} (h : ph a = ph b) : a = b := by
  unfold ph at h
  injection h with h1 h2
  exact Rat.ext h1 h2
theorem ph_frac (n : Int) (d : Nat) : VbceCore.frac n d = ph (mkRat n d) := by
  unfold VbceCore.frac ph
  rw [Rat.num_mkRat, Rat.den_mkRat]
  by_cases h : d = 0
  · rw [if_pos h, if_pos h, if_pos h] <;> rfl
  · rw [if_neg h, if_neg h, if_neg h, Nat.gcd_comm]
theorem ph_add (a b : Rat) : VbceCore.add (ph a) (ph b) = ph (a + b) := by
  unfold VbceCore.add
  rw [ph_frac, Rat.add_def'] <;> rfl
theorem ph_mul (a b : Rat) : VbceCore.mul (ph a) (ph b) = ph (a * b) := by
  unfold VbceCore.mul
  rw [ph_frac, Rat.mul_def'] <;> rfl
theorem ph_neg (a : Rat) : VbceCore.neg (ph a) = ph (-a) := rfl
theorem ph_sub (a b : Rat) : VbceCore.sub (ph a) (ph b) = ph (a - b) := by
  unfold VbceCore.sub
  rw [ph_neg, ph_add, Rat.sub_eq_add_neg]
theorem ph_inv (a : Rat) : VbceCore.inv (ph a) = ph a⁻¹ := by
  show VbceCore.inv (ph a) = ph (Rat.inv a)
  unfold Rat.inv VbceCore.inv
  show (if a.num = 0 then VbceCore.zero else if a.num < 0 then _ else _) = _
  by_cases h1 : a.num < 0
  · rw [if_neg (by omega), if_pos h1, dif_pos h1] <;> rfl
  · by_cases h2 : a.num > 0
    · rw [if_neg (by omega), if_neg h1, dif_neg h1, dif_pos h2] <;> rfl
    · have h0 : a.num = 0 := by omega
      rw [if_pos h0, dif_neg h1, dif_neg h2]
      have : a = 0 := Rat.num_eq_zero.mp h0
      rw [this] <;> rfl
theorem ph_div (a b : Rat) : VbceCore.div (ph a) (ph b) = ph (a / b) := by
  unfold VbceCore.div
  rw [ph_inv, ph_mul, Rat.div_def]
theorem ph_whole (z : Int) : VbceCore.whole z = ph (z : Rat) := rfl
theorem ph_zero : VbceCore.zero = ph 0 := rfl
theorem ph_one : VbceCore.one = ph 1 := rfl
theorem ph_eq {a b : Rat} : ph a = ph b ↔ a = b := ⟨ph_inj, fun h => by rw [h]⟩
theorem ph_sum (l : List Rat) : VbceCore.sum (l.map ph) = ph (sumR l) := by
  unfold VbceCore.sum sumR
  rw [ph_zero]
  generalize (0 : Rat) = a
  induction l generalizing a with
  | nil => rfl
  | cons b l ih =>
    show List.foldl VbceCore.add (VbceCore.add (ph a) (ph b)) (l.map ph) = ph (List.foldl _ (a + b) l)
    rw [ph_add, ih]
theorem ph_getD (l : List Rat) (i : Nat) : (l.map ph).getD i VbceCore.zero = ph (l.getD i 0) := by
  rw [List.getD_eq_getElem?_getD, List.getD_eq_getElem?_getD, List.getElem?_map]
  cases l[i]? <;> rfl
theorem ph_cleared (p : List Rat) (i : Nat) (r : List Rat) : Vbcead.cleared (p.map ph) i (r.map ph) = (clearedR p i r).map ph := by
  unfold Vbcead.cleared clearedR
  rw [ph_getD, ph_getD]
  show (if ph (r.getD i 0) = ph 0 then _ else _) = _
  by_cases h : r.getD i 0 = 0
  · rw [if_pos (ph_eq.mpr h), if_pos h]
  · rw [if_neg fun z => h (ph_eq.mp z), if_neg h, List.zip_map, List.map_map, List.map_map]
    refine List.map_congr_left fun a _ => ?_
    show VbceCore.sub (ph a.1) (VbceCore.mul (VbceCore.div _ _) (ph a.2)) = ph (a.1 - _ * a.2)
    rw [ph_div, ph_mul, ph_sub]
abbrev phR (m : List (List Rat)) : List (List VbceCore.Frac) := m.map (List.map ph)
theorem ph_pivot (i : Nat) : ∀ m : List (List Rat), Vbcead.pivot i (phR m) = (pivotR i m).map fun x => (x.1.map ph, phR x.2)
  | [] => rfl
  | r :: l => by
    show (if (r.map ph).getD i VbceCore.zero ≠ VbceCore.zero then some (r.map ph, phR l) else (Vbcead.pivot i (phR l)).map fun x => (x.1, r.map ph :: x.2)) = Option.map _ (if r.getD i 0 ≠ 0 then some (r, l) else (pivotR i l).map fun x => (x.1, r :: x.2))
    rw [ph_getD, ph_pivot i l, ph_zero]
    by_cases h : r.getD i 0 = 0
    · rw [if_neg (by rw [h]; simp), if_neg (by rw [h]; simp)]
      cases pivotR i l <;> rfl
    · rw [if_pos fun z => h (ph_inj z), if_pos h] <;> rfl
theorem ph_steps : ∀ (f i : Nat) (m : List (List Rat)), Vbcead.steps f i (phR m) = (stepsR f i m).map fun y => (phR y.1, phR y.2)
  | 0, _, _ => rfl
  | f + 1, i, m => by
    unfold Vbcead.steps stepsR
    rw [ph_pivot]
    cases pivotR i m with
    | none => rfl
    | some x =>
      show Option.map _ (Vbcead.steps f (i + 1) ((phR x.2).map (Vbcead.cleared (x.1.map ph) i))) = Option.map _ (Option.map _ (stepsR f (i + 1) (x.2.map (clearedR x.1 i))))
      have e : (phR x.2).map (Vbcead.cleared (x.1.map ph) i) = phR (x.2.map (clearedR x.1 i)) := by
        show List.map _ (List.map _ _) = List.map _ (List.map _ _)
        rw [List.map_map, List.map_map]
        exact List.map_congr_left fun r _ => ph_cleared x.1 i r
      rw [e, ph_steps f (i + 1)]
      cases stepsR f (i + 1) (x.2.map (clearedR x.1 i)) <;> rfl
theorem ph_back : ∀ (l : List (List Rat)) (i : Nat), Vbcead.back i (phR l) = (backR i l).map ph
  | [], _ => rfl
  | r :: l, i => by
    have ih := ph_back l (i + 1)
    show VbceCore.div (VbceCore.sub ((r.map ph).getD (i + (Vbcead.back (i + 1) (phR l)).length + 1) VbceCore.zero) (VbceCore.sum ((((r.map ph).drop (i + 1)).zip (Vbcead.back (i + 1) (phR l))).map fun x => VbceCore.mul x.1 x.2))) ((r.map ph).getD i VbceCore.zero) :: Vbcead.back (i + 1) (phR l) = _
    have ez : ((((r.map ph).drop (i + 1)).zip ((backR (i + 1) l).map ph)).map fun x => VbceCore.mul x.1 x.2) = (((r.drop (i + 1)).zip (backR (i + 1) l)).map fun x => x.1 * x.2).map ph := by
      rw [← List.map_drop, List.zip_map, List.map_map, List.map_map]
      refine List.map_congr_left fun a _ => ?_
      exact ph_mul a.1 a.2
    rw [ih, List.length_map, ph_getD, ph_getD, ez, ph_sum, ph_sub, ph_div]
    rfl
theorem ph_solved (n : Nat) (m : List (List Rat)) : Vbcead.solved n (phR m) = (solvedR n m).map (List.map ph) := by
  unfold Vbcead.solved solvedR
  rw [ph_steps]
  cases stepsR n 0 m with
  | none => rfl
  | some x =>
    show (if ((phR x.2).all fun r => r.getD n VbceCore.zero == VbceCore.zero) = true then some (Vbcead.back 0 (phR x.1)) else none) = Option.map _ (if (x.2.all fun r => decide (r.getD n 0 = 0)) = true then some (backR 0 x.1) else none)
    have e : ((phR x.2).all fun r => r.getD n VbceCore.zero == VbceCore.zero) = x.2.all fun r => decide (r.getD n 0 = 0) := by
      rw [List.all_map]
      congr 1
      funext r
      show ((r.map ph).getD n VbceCore.zero == VbceCore.zero) = _
      rw [ph_getD, ph_zero, Bool.eq_iff_iff, beq_iff_eq, decide_eq_true_eq, ph_eq]
    rw [e, ph_back]
    split <;> rfl
def equationsR (k f : Nat) (l : List Int) : List (List Rat) := (List.range l.length).map fun i =>
  ((List.range (k + f)).map fun a => ((Vbcead.power_ i a : Int) : Rat)) ++ ((List.range f).map fun b => ((-(l.getD i 0 * Vbcead.power_ i b) : Int) : Rat)) ++ [((l.getD i 0 * Vbcead.power_ i f : Int) : Rat)]
theorem ph_equations (k f : Nat) (l : List Int) : Vbcead.equations k f l = phR (equationsR k f l) := by
  unfold Vbcead.equations equationsR
  show _ = List.map _ (List.map _ _)
  rw [List.map_map]
  refine List.map_congr_left fun i _ => ?_
  show _ ++ _ ++ [_] = List.map ph (_ ++ _ ++ [_])
  rw [List.map_append, List.map_append, List.map_map, List.map_map]
  rfl
/-- Horner's way -/
def horner (c : List Rat) (x : Rat) : Rat := c.foldr (fun a v => a + x * v) 1
theorem ph_horner (i : Nat) : ∀ c : List Rat, (c.map ph).foldr (fun a v => VbceCore.add a (VbceCore.mul (VbceCore.whole (i : Int)) v)) VbceCore.one = ph (horner c ((i : Int) : Rat))
  | [] => rfl
  | a :: c => by
    show VbceCore.add (ph a) (VbceCore.mul (VbceCore.whole (i : Int)) ((c.map ph).foldr _ VbceCore.one)) = ph (a + _ * horner c _)
    rw [ph_horner i c, ph_whole, ph_mul, ph_add]
theorem ph_zeros (c : List Rat) (n : Nat) : Vbcead.zeros (c.map ph) n = (List.range n).filter fun (i : Nat) => decide (horner c ((i : Int) : Rat) = 0) := by
  unfold Vbcead.zeros
  congr 1
  funext i
  rw [ph_horner, ph_zero, Bool.eq_iff_iff, beq_iff_eq, decide_eq_true_eq, ph_eq]
theorem horner_is (x : Rat) : ∀ (c : List Rat), horner c x = x ^ c.length + pl c.length (fun a => c.getD a 0) x
  | [] => by show (1 : Rat) = x ^ 0 + 0; rw [Rat.pow_zero]; grind
  | a :: c => by
    show a + x * horner c x = x ^ (c.length + 1) + pl (c.length + 1) (fun b => (a :: c).getD b 0) x
    rw [horner_is x c, pl_head, Rat.pow_succ]
    show _ = x ^ c.length * x + (a + x * pl c.length (fun b => c.getD b 0) x)
    grind
end CE
namespace CE
/-! ### The polynomial through some lines -/
def lagT (l : List Int) (ps : List Nat) (p : Nat) (x : Rat) : Rat := (ps.filter fun o => decide (o ≠ p)).foldl (fun (a : Rat) (o : Nat) => a * ((x - (o : Rat)) / ((p : Rat) - (o : Rat)))) ((l.getD p 0 : Int) : Rat)
def lagR (l : List Int) (ps : List Nat) (x : Rat) : Rat := sumR (ps.map fun p => lagT l ps p x)
theorem fold_pd (p : Nat) : ∀ (os : List Nat) (d : Nat) (f : Rat → Rat), Pd d f → Pd (d + os.length) fun x => os.foldl (fun (a : Rat) (o : Nat) => a * ((x - (o : Rat)) / ((p : Rat) - (o : Rat)))) (f x)
  | [], d, f, h => h
  | o :: os, d, f, h => by
    have h1 : Pd (d + 1) fun x => f x * ((x - (o : Rat)) / ((p : Rat) - (o : Rat))) := pd_congr (pd_mul (((p : Rat) - (o : Rat))⁻¹) (pd_lin (o : Rat) h)) fun x => by rw [Rat.div_def]; grind
    have h2 := fold_pd p os (d + 1) _ h1
    exact pd_mono h2 (by rw [List.length_cons]; omega)
theorem filter_ne_len {ps : List Nat} {p : Nat} (nd : ps.Nodup) (h : p ∈ ps) : (ps.filter fun o => decide (o ≠ p)).length + 1 = ps.length := by
  induction ps with
  | nil => cases h
  | cons a ps ih =>
    obtain ⟨na, nd⟩ := List.nodup_cons.mp nd
    rw [List.filter_cons]
    by_cases e : a = p
    · subst e
      rw [if_neg (by simp)]
      have : (ps.filter fun o => decide (o ≠ a)) = ps := List.filter_eq_self.mpr fun o ho => decide_eq_true fun z => na (z ▸ ho)
      rw [this] <;> rfl
    · rw [if_pos (by simpa using e), List.length_cons, List.length_cons, ih nd (by
        rcases List.mem_cons.mp h with z | z
        · exact absurd z.symm e
        · exact z)]
theorem sum_pd {d : Nat} {α : Type} {f : α → Rat → Rat} : ∀ l : List α, (∀ a ∈ l, Pd d (f a)) → Pd d fun x => sumR (l.map fun a => f a x) := fun l h => by
  have key : ∀ (l : List α) (g : Rat → Rat), Pd d g → (∀ a ∈ l, Pd d (f a)) → Pd d fun x => (l.map fun a => f a x).foldl (· + ·) (g x) := fun l => by
    induction l with
    | nil => intro g hg _; exact hg
    | cons a l ih =>
      intro g hg hl
      exact ih (fun x => g x + f a x) (pd_add hg (hl a List.mem_cons_self)) fun b hb => hl b (List.mem_cons_of_mem _ hb)
  exact key l (fun _ => 0) (pd_zero d) h
theorem lag_pd {l : List Int} {ps : List Nat} (nd : ps.Nodup) : Pd ps.length (lagR l ps) := by
  refine sum_pd ps fun p hp => ?_
  have := fold_pd p (ps.filter fun o => decide (o ≠ p)) 1 (fun _ => ((l.getD p 0 : Int) : Rat)) (pd_const _)
  rw [Nat.add_comm 1, filter_ne_len nd hp] at this
  exact this
theorem fold_one (p : Nat) : ∀ (os : List Nat) (a : Rat), (∀ o ∈ os, o ≠ p) → os.foldl (fun (a : Rat) (o : Nat) => a * (((p : Rat) - (o : Rat)) / ((p : Rat) - (o : Rat)))) a = a
  | [], _, _ => rfl
  | o :: os, a, h => by
    have hne : (p : Rat) - (o : Rat) ≠ 0 := fun z => h o List.mem_cons_self (cast_inj (by grind))
    show os.foldl _ (a * (((p : Rat) - (o : Rat)) / ((p : Rat) - (o : Rat)))) = a
    rw [show a * (((p : Rat) - (o : Rat)) / ((p : Rat) - (o : Rat))) = a by grind]
    exact fold_one p os a fun o ho => h o (List.mem_cons_of_mem _ ho)
theorem fold_zero (p q : Nat) : ∀ (os : List Nat) (a : Rat), (a = 0 ∨ q ∈ os) → os.foldl (fun (a : Rat) (o : Nat) => a * (((q : Rat) - (o : Rat)) / ((p : Rat) - (o : Rat)))) a = 0
  | [], a, h => h.elim id fun z => nomatch z
  | o :: os, a, h => by
    refine fold_zero p q os _ ?_
    rcases h with rfl | h
    · exact .inl (by grind)
    · rcases List.mem_cons.mp h with rfl | h
      · refine .inl ?_
        show a * (((q : Rat) - (q : Rat)) / ((p : Rat) - (q : Rat))) = 0
        rw [Rat.div_def]
        grind
      · exact .inr h
theorem sum_one {α : Type} {f : α → Rat} {a : α} : ∀ {l : List α}, a ∈ l → l.Nodup → (∀ b ∈ l, b ≠ a → f b = 0) → sumR (l.map f) = f a := fun {l} h nd hz => by
  have key : ∀ (l : List α) (g : Rat), l.Nodup → (∀ b ∈ l, b ≠ a → f b = 0) → ((a ∈ l → (l.map f).foldl (· + ·) g = g + f a) ∧ (a ∉ l → (l.map f).foldl (· + ·) g = g)) := fun l => by
    induction l with
    | nil => exact fun g _ _ => ⟨(fun z => nomatch z), (fun _ => rfl)⟩
    | cons b l ih =>
      intro g nd hz
      obtain ⟨nb, nd⟩ := List.nodup_cons.mp nd
      obtain ⟨i1, i2⟩ := ih (g + f b) nd fun c hc => hz c (List.mem_cons_of_mem _ hc)
      refine ⟨fun h => ?_, fun h => ?_⟩
      · show (l.map f).foldl _ (g + f b) = _
        rcases List.mem_cons.mp h with rfl | h
        · exact i2 nb
        · rw [i1 h, hz b List.mem_cons_self fun z => nb (z ▸ h)]
          grind
      · show (l.map f).foldl _ (g + f b) = _
        rw [i2 fun z => h (List.mem_cons_of_mem _ z), hz b List.mem_cons_self fun z => h (z ▸ List.mem_cons_self)]
        grind
  have := (key l 0 nd hz).1 h
  show (l.map f).foldl (· + ·) 0 = _
  rw [this]
  grind
theorem lag_at {l : List Int} {ps : List Nat} (nd : ps.Nodup) {p : Nat} (hp : p ∈ ps) : lagR l ps (p : Rat) = ((l.getD p 0 : Int) : Rat) := by
  unfold lagR
  rw [sum_one (f := fun q => lagT l ps q (p : Rat)) hp nd fun q hq hne => fold_zero q p _ _ (.inr (List.mem_filter.mpr ⟨hp, decide_eq_true fun z => hne z.symm⟩))]
  exact fold_one p _ _ fun o ho => of_decide_eq_true (List.mem_filter.mp ho).2
/-! #### the specification's and the program's -/
theorem others_is {l : List Int} {ps : List Nat} (nd : ps.Nodup) {p i : Nat} (h : ps[i]? = some p) : (((Vbcead.pointsAt l ps).zipIdx.filter fun q => q.2 != i).map fun q => q.1.1) = ps.filter fun o => decide (o ≠ p) := by
  have e1 : ((Vbcead.pointsAt l ps).zipIdx.filter fun q => q.2 != i) = (Vbcead.pointsAt l ps).zipIdx.filter fun q => decide (q.1.1 ≠ p) := by
    refine List.filter_congr fun q hq => ?_
    obtain ⟨⟨a, b⟩, j⟩ := q
    have hq := List.mem_zipIdx_iff_getElem?.mp hq
    have hq : (Vbcead.pointsAt l ps)[j]? = some (a, b) := by simpa using hq
    unfold Vbcead.pointsAt at hq
    rw [List.getElem?_map] at hq
    obtain ⟨c, hc, e⟩ := Option.map_eq_some_iff.mp hq
    have ec : c = a := congrArg Prod.fst e
    subst ec
    show (j != i) = decide (c ≠ p)
    rw [Bool.eq_iff_iff, bne_iff_ne, decide_eq_true_eq]
    refine ⟨fun hne z => hne ?_, fun hne z => hne ?_⟩
    · subst z
      have hj := (List.getElem?_eq_some_iff.mp hc)
      have hi := (List.getElem?_eq_some_iff.mp h)
      obtain ⟨hj, ej⟩ := hj
      obtain ⟨hi, ei⟩ := hi
      exact (List.getElem_inj nd).mp (ej.trans ei.symm)
    · subst z
      rw [h] at hc
      exact (Option.some.inj hc).symm
  rw [e1]
  have e2 : (Vbcead.pointsAt l ps).zipIdx.map (fun q => q.1.1) = ps := by
    have : (Vbcead.pointsAt l ps).zipIdx.map (fun q => q.1.1) = ((Vbcead.pointsAt l ps).zipIdx.map Prod.fst).map Prod.fst := by rw [List.map_map]; rfl
    rw [this, List.zipIdx_map_fst]
    unfold Vbcead.pointsAt
    rw [List.map_map]
    exact List.map_id ps
  have e3 : ((Vbcead.pointsAt l ps).zipIdx.map (fun q : (Nat × Int) × Nat => q.1.1)).filter (fun o => decide (o ≠ p)) = ((Vbcead.pointsAt l ps).zipIdx.filter fun q => decide (q.1.1 ≠ p)).map fun q => q.1.1 := List.filter_map
  rw [← e3, e2]
theorem ph_fold (x p : Nat) : ∀ (os : List Nat) (a : Rat), os.foldl (fun (f : VbceCore.Frac) (o : Nat) => VbceCore.mul f (VbceCore.div (VbceCore.whole ((x : Int) - (o : Int))) (VbceCore.whole ((p : Int) - (o : Int))))) (ph a) = ph (os.foldl (fun (a : Rat) (o : Nat) => a * (((x : Rat) - (o : Rat)) / ((p : Rat) - (o : Rat)))) a)
  | [], _ => rfl
  | o :: os, a => by
    show os.foldl _ (VbceCore.mul (ph a) (VbceCore.div (VbceCore.whole ((x : Int) - (o : Int))) (VbceCore.whole ((p : Int) - (o : Int))))) = ph (os.foldl _ (a * (((x : Rat) - (o : Rat)) / ((p : Rat) - (o : Rat)))))
    have e : ∀ a b : Nat, (((a : Int) - (b : Int) : Int) : Rat) = (a : Rat) - (b : Rat) := fun a b => by rw [Rat.intCast_sub]; rfl
    rw [ph_whole, ph_whole, ph_div, ph_mul, ph_fold x p os, e, e]
theorem through_is {l : List Int} {ps : List Nat} (nd : ps.Nodup) (x : Nat) : Vbcead.through (Vbcead.pointsAt l ps) x = ph (lagR l ps (x : Rat)) := by
  unfold Vbcead.through lagR
  rw [← ph_sum, List.map_map]
  congr 1
  refine List.ext_getElem? fun i => ?_
  rw [List.getElem?_map, List.getElem?_map, List.getElem?_zipIdx]
  have hg : (Vbcead.pointsAt l ps)[i]? = ps[i]?.map fun p => (p, l.getD p 0) := List.getElem?_map
  rw [hg]
  cases h : ps[i]? with
  | none => rfl
  | some p =>
    show some _ = some _
    congr 1
    show List.foldl _ (VbceCore.whole (l.getD p 0)) (((Vbcead.pointsAt l ps).zipIdx.filter fun q => q.2 != 0 + i).map fun q => q.1.1) = ph (lagT l ps p (x : Rat))
    rw [Nat.zero_add, others_is nd h, ph_whole]
    exact ph_fold x p _ _
theorem int_fold (x p : Nat) : ∀ (os : List Nat) (a b : Int), b ≠ 0 → (∀ o ∈ os, o ≠ p) → Rat.divInt (os.foldl (fun (a : Int) (o : Nat) => a * ((x : Int) - (o : Int))) a) (os.foldl (fun (a : Int) (o : Nat) => a * ((p : Int) - (o : Int))) b) = os.foldl (fun (a : Rat) (o : Nat) => a * (((x : Rat) - (o : Rat)) / ((p : Rat) - (o : Rat)))) (Rat.divInt a b)
  | [], _, _, _, _ => rfl
  | o :: os, a, b, hb, h => by
    have hne : (p : Int) - (o : Int) ≠ 0 := fun z => h o List.mem_cons_self (by omega)
    show Rat.divInt (os.foldl _ (a * ((x : Int) - (o : Int)))) (os.foldl _ (b * ((p : Int) - (o : Int)))) = os.foldl _ (Rat.divInt a b * (((x : Rat) - (o : Rat)) / ((p : Rat) - (o : Rat))))
    rw [int_fold x p os _ _ (Int.mul_ne_zero hb hne) fun o ho => h o (List.mem_cons_of_mem _ ho)]
    congr 1
    have e : ∀ a b : Nat, (((a : Int) - (b : Int) : Int) : Rat) = (a : Rat) - (b : Rat) := fun a b => by rw [Rat.intCast_sub]; rfl
    have hbR : (b : Rat) ≠ 0 := fun z => hb (by exact_mod_cast z)
    have hnR : (p : Rat) - (o : Rat) ≠ 0 := fun z => h o List.mem_cons_self (cast_inj (by grind)).symm
    rw [Rat.divInt_eq_div, Rat.divInt_eq_div, Rat.intCast_mul, Rat.intCast_mul, e, e]
    grind
theorem thr_is (l : List Int) (ps : List Nat) (x : Nat) : thrM l ps x = lagR l ps (x : Rat) := by
  unfold thrM thrTo lagR sumR
  rw [List.take_length]
  congr 1
  refine List.map_congr_left fun p _ => ?_
  unfold termM aboveM belowM lagT
  rw [int_fold x p _ _ _ (by decide) fun o ho => of_decide_eq_true (List.mem_filter.mp ho).2]
  congr 1
  rw [Rat.divInt_eq_div]
  show _ / ((1 : Int) : Rat) = _
  rw [show ((1 : Int) : Rat) = 1 from rfl]
  grind
end CE
namespace CE
/-! ### The specification's least change -/
abbrev liR (l : List Int) (i : Nat) : Rat := ((l.getD i 0 : Int) : Rat)
/-- the lines that aren't as a polynomial has them, and those that are -/
def dis (l : List Int) (p : Rat → Rat) : List Nat := (List.range l.length).filter fun (i : Nat) => decide (p (i : Rat) ≠ liR l i)
def ags (l : List Int) (p : Rat → Rat) : List Nat := (List.range l.length).filter fun (i : Nat) => decide (p (i : Rat) = liR l i)
theorem dis_nd (l : List Int) (p : Rat → Rat) : (dis l p).Nodup := List.Sublist.nodup List.filter_sublist List.nodup_range
theorem ags_nd (l : List Int) (p : Rat → Rat) : (ags l p).Nodup := List.Sublist.nodup List.filter_sublist List.nodup_range
theorem dis_mem {l : List Int} {p : Rat → Rat} {i : Nat} : i ∈ dis l p ↔ i < l.length ∧ p (i : Rat) ≠ liR l i := by
  unfold dis
  rw [List.mem_filter, List.mem_range, decide_eq_true_eq]
theorem ags_mem {l : List Int} {p : Rat → Rat} {i : Nat} : i ∈ ags l p ↔ i < l.length ∧ p (i : Rat) = liR l i := by
  unfold ags
  rw [List.mem_filter, List.mem_range, decide_eq_true_eq]
theorem filter_two {α : Type} {f g : α → Bool} (h : ∀ a, g a = !f a) : ∀ l : List α, (l.filter f).length + (l.filter g).length = l.length
  | [] => rfl
  | a :: l => by
    have ih := filter_two h l
    rw [List.filter_cons, List.filter_cons, h a]
    cases f a with
    | true => rw [if_pos rfl, if_neg (by decide), List.length_cons, List.length_cons]; omega
    | false => rw [if_neg (by decide), if_pos (by decide), List.length_cons, List.length_cons]; omega
theorem two_len (l : List Int) (p : Rat → Rat) : (dis l p).length + (ags l p).length = l.length := by
  have := filter_two (f := fun (i : Nat) => decide (p (i : Rat) ≠ liR l i)) (g := fun (i : Nat) => decide (p (i : Rat) = liR l i)) (fun i => by
    by_cases h : p (i : Rat) = liR l i
    · rw [decide_eq_true h, decide_eq_false fun z => z h] <;> rfl
    · rw [decide_eq_false h, decide_eq_true h] <;> rfl) (List.range l.length)
  rw [List.length_range] at this
  exact this
theorem dis_congr {l : List Int} {p q : Rat → Rat} (h : ∀ x, p x = q x) : dis l p = dis l q := by
  unfold dis
  congr 1
  funext i
  rw [h]
/-- what is off, with what it should be -/
def offR (l : List Int) (p : Rat → Rat) : List (Nat × Rat) := (dis l p).map fun i => (i, p (i : Rat))
abbrev phP (x : List (Nat × Rat)) : List (Nat × VbceCore.Frac) := x.map fun a => (a.1, ph a.2)
theorem off_is {k : Nat} {l : List Int} {good : List Nat} (nd : good.Nodup) : Vbcead.offAgainst k l good = phP (offR l (lagR l (good.take k))) := by
  have nd' : (good.take k).Nodup := List.Sublist.nodup (List.take_sublist _ _) nd
  unfold Vbcead.offAgainst offR dis
  show _ = List.map _ (List.map _ _)
  rw [List.map_map]
  have key : ∀ r : List Nat, (r.filterMap fun i => if Vbcead.through (Vbcead.pointsAt l (good.take k)) i = VbceCore.whole (l.getD i 0) then none else some (i, Vbcead.through (Vbcead.pointsAt l (good.take k)) i)) = ((r.filter fun (i : Nat) => decide (lagR l (good.take k) (i : Rat) ≠ liR l i)).map ((fun a : Nat × Rat => (a.1, ph a.2)) ∘ fun i => (i, lagR l (good.take k) (i : Rat)))) := fun r => by
    induction r with
    | nil => rfl
    | cons i r ih =>
      rw [List.filterMap_cons, List.filter_cons, through_is nd', ph_whole]
      by_cases h : lagR l (good.take k) (i : Rat) = liR l i
      · rw [if_pos (ph_eq.mpr h), if_neg (by rw [decide_eq_false fun z => z h]; decide)]
        exact ih
      · rw [if_neg fun z => h (ph_inj z), if_pos (decide_eq_true h), List.map_cons, ih]
        rfl
  exact key _
theorem spec_sound {k f : Nat} {l : List Int} {off : List (Nat × VbceCore.Frac)} (h : Vbcead.changesBy k f l = some off) : ∃ p, Pd k p ∧ (dis l p).length = f := by
  unfold Vbcead.changesBy at h
  cases hs : Vbcead.solved (k + f + f) (Vbcead.equations k f l) with
  | none => rw [hs] at h; cases h
  | some x =>
    rw [hs] at h
    have nd : ((List.range l.length).filter fun i => !(Vbcead.zeros (x.drop (k + f)) l.length).contains i).Nodup := List.Sublist.nodup List.filter_sublist List.nodup_range
    have h : (if (Vbcead.offAgainst k l ((List.range l.length).filter fun i => !(Vbcead.zeros (x.drop (k + f)) l.length).contains i)).length = f ∧ k ≤ ((List.range l.length).filter fun i => !(Vbcead.zeros (x.drop (k + f)) l.length).contains i).length then some (Vbcead.offAgainst k l ((List.range l.length).filter fun i => !(Vbcead.zeros (x.drop (k + f)) l.length).contains i)) else none) = some off := h
    generalize ((List.range l.length).filter fun i => !(Vbcead.zeros (x.drop (k + f)) l.length).contains i) = good at h nd
    by_cases hc : (Vbcead.offAgainst k l good).length = f ∧ k ≤ good.length
    · obtain ⟨h1, h2⟩ := hc
      rw [off_is nd] at h1
      refine ⟨lagR l (good.take k), ?_, ?_⟩
      · have := lag_pd (l := l) (List.Sublist.nodup (List.take_sublist k good) nd)
        rw [List.length_take, Nat.min_eq_left h2] at this
        exact this
      · unfold offR at h1
        rw [List.length_map, List.length_map] at h1
        exact h1
    · rw [if_neg hc] at h; cases h
/-! #### the equations -/
def rowR (k f : Nat) (l : List Int) (i : Nat) : List Rat := ((List.range (k + f)).map fun a => ((Vbcead.power_ i a : Int) : Rat)) ++ ((List.range f).map fun b => ((-(l.getD i 0 * Vbcead.power_ i b) : Int) : Rat)) ++ [((l.getD i 0 * Vbcead.power_ i f : Int) : Rat)]
theorem power_is (i a : Nat) : ((Vbcead.power_ i a : Int) : Rat) = (i : Rat) ^ a := by
  unfold Vbcead.power_
  rw [Rat.intCast_pow]
  rfl
theorem row_a {k f : Nat} {l : List Int} {i j : Nat} (h : j < k + f) : (rowR k f l i).getD j 0 = (i : Rat) ^ j := by
  unfold rowR
  rw [List.getD_eq_getElem?_getD, List.getElem?_append_left (by rw [List.length_append, List.length_map, List.length_range]; omega), List.getElem?_append_left (by rw [List.length_map, List.length_range]; exact h), List.getElem?_map, List.getElem?_range h]
  exact power_is i j
theorem row_b {k f : Nat} {l : List Int} {i b : Nat} (h : b < f) : (rowR k f l i).getD (k + f + b) 0 = -(liR l i * (i : Rat) ^ b) := by
  unfold rowR
  rw [List.getD_eq_getElem?_getD, List.getElem?_append_left (by rw [List.length_append, List.length_map, List.length_range, List.length_map, List.length_range]; omega), List.getElem?_append_right (by rw [List.length_map, List.length_range]; omega), List.length_map, List.length_range, show k + f + b - (k + f) = b by omega, List.getElem?_map, List.getElem?_range h]
  show ((-(l.getD i 0 * Vbcead.power_ i b) : Int) : Rat) = _
  rw [Rat.intCast_neg, Rat.intCast_mul, power_is]
theorem row_c {k f : Nat} {l : List Int} {i : Nat} : (rowR k f l i).getD (k + f + f) 0 = liR l i * (i : Rat) ^ f := by
  unfold rowR
  rw [List.getD_eq_getElem?_getD, List.getElem?_append_right (by rw [List.length_append, List.length_map, List.length_range, List.length_map, List.length_range]; omega), List.length_append, List.length_map, List.length_range, List.length_map, List.length_range, Nat.sub_self]
  show ((l.getD i 0 * Vbcead.power_ i f : Int) : Rat) = _
  rw [Rat.intCast_mul, power_is]
theorem row_len {k f : Nat} {l : List Int} {i : Nat} : (rowR k f l i).length = k + f + f + 1 := by
  unfold rowR
  rw [List.length_append, List.length_append, List.length_map, List.length_range, List.length_map, List.length_range] <;> rfl
theorem row_dot (k f : Nat) (l : List Int) (i : Nat) (v : Nat → Rat) : dot (k + f + f) (rowR k f l i) v = pl (k + f) v (i : Rat) - liR l i * pl f (fun b => v (k + f + b)) (i : Rat) := by
  unfold dot pl
  rw [sm_split, ← sm_mul, show ∀ a b : Rat, a - b = a + (-1) * b from fun a b => by grind, ← sm_mul]
  congr 1
  · refine sm_congr fun j hj => ?_
    rw [row_a hj]
    grind
  · refine sm_congr fun b hb => ?_
    rw [row_b hb]
    grind
section
variable {k f : Nat} {l : List Int} {p : Rat → Rat}
theorem spec_kernel (hp : Pd k p) (hk : 1 ≤ k) (hf : (dis l p).length = f) (hn : k + f + f ≤ l.length) (v : Nat → Rat) (hv : ∀ r ∈ equationsR k f l, dot (k + f + f) r v = 0) : ∀ j, j < k + f + f → v j = 0 := by
  have hrow : ∀ i, i < l.length → pl (k + f) v (i : Rat) = liR l i * pl f (fun b => v (k + f + b)) (i : Rat) := fun i hi => by
    have := hv (rowR k f l i) (List.mem_map.mpr ⟨i, List.mem_range.mpr hi, rfl⟩)
    rw [row_dot] at this
    grind
  have hD : Pd (k + f) fun x => pl (k + f) v x + (-1) * (p x * pl f (fun b => v (k + f + b)) x) := by
    refine pd_add ⟨v, fun _ => rfl⟩ (pd_mul (-1) ?_)
    obtain ⟨k', rfl⟩ : ∃ k', k = k' + 1 := ⟨k - 1, by omega⟩
    exact pd_mono (pd_prod (e := f) ⟨_, fun _ => rfl⟩ hp) (by omega)
  have two := two_len l p
  have zD := pd_roots hD (ags_nd l p) (by omega) fun r hr => by
    obtain ⟨hr1, hr2⟩ := ags_mem.mp hr
    show pl (k + f) v (r : Rat) + (-1) * (p (r : Rat) * _) = 0
    rw [hrow r hr1, hr2]
    grind
  have zB : ∀ b, b < f → v (k + f + b) = 0 := by
    have := roots (dis l p) (fun b => v (k + f + b)) (dis_nd l p) fun e he => by
      obtain ⟨he1, he2⟩ := dis_mem.mp he
      have h1 := zD (e : Rat)
      have h1 : pl (k + f) v (e : Rat) + (-1) * (p (e : Rat) * pl f (fun b => v (k + f + b)) (e : Rat)) = 0 := h1
      rw [hrow e he1] at h1
      rw [hf]
      have h3 : (liR l e - p (e : Rat)) * pl f (fun b => v (k + f + b)) (e : Rat) = 0 := by grind
      have h4 : liR l e - p (e : Rat) ≠ 0 := fun z => he2 (by grind)
      grind
    rw [hf] at this
    exact this
  have zA : ∀ a, a < k + f → v a = 0 := by
    have := roots (List.range (k + f)) v List.nodup_range fun r hr => by
      rw [List.length_range]
      have h1 := zD (r : Rat)
      have h1 : pl (k + f) v (r : Rat) + (-1) * (p (r : Rat) * pl f (fun b => v (k + f + b)) (r : Rat)) = 0 := h1
      rw [pl_zero zB] at h1
      grind
    rw [List.length_range] at this
    exact this
  intro j hj
  by_cases h : j < k + f
  · exact zA j h
  · have := zB (j - (k + f)) (by omega)
    rw [show k + f + (j - (k + f)) = j by omega] at this
    exact this
theorem filter_own {P : Nat → Bool} {n : Nat} {q : Nat → Bool} (h : ∀ i, i < n → q i = P i) : (List.range n).filter q = (List.range n).filter P := List.filter_congr fun i hi => h i (List.mem_range.mp hi)
theorem spec_complete (hp : Pd k p) (hk : 1 ≤ k) (hf : (dis l p).length = f) (hn : k + f + f ≤ l.length) : Vbcead.changesBy k f l = some (phP (offR l p)) := by
  obtain ⟨b, hb⟩ := zp_monic (dis l p)
  rw [hf] at hb
  obtain ⟨a, ha⟩ := pd_prod hp (zp_pd (dis l p))
  rw [hf, Nat.add_comm] at ha
  have two := two_len l p
  have hs := solvedR_ok (N := k + f + f) (m := equationsR k f l) (w := fun j => if j < k + f then a j else b (j - (k + f))) (fun r hr => by
    obtain ⟨i, _, rfl⟩ := List.mem_map.mp hr
    exact row_len) (fun r hr => by
    obtain ⟨i, hi, rfl⟩ := List.mem_map.mp hr
    have hi := List.mem_range.mp hi
    show dot (k + f + f) (rowR k f l i) _ = (rowR k f l i).getD (k + f + f) 0
    rw [row_dot, row_c]
    have e1 : pl (k + f) (fun j => if j < k + f then a j else b (j - (k + f))) (i : Rat) = zp (dis l p) (i : Rat) * p (i : Rat) := by
      rw [pl_congr (e := a) (fun j hj => if_pos hj)]
      exact (ha (i : Rat)).symm
    have e2 : pl f (fun q => if k + f + q < k + f then a (k + f + q) else b (k + f + q - (k + f))) (i : Rat) = pl f b (i : Rat) := pl_congr (fun q _ => by rw [if_neg (by omega), show k + f + q - (k + f) = q by omega]) _
    rw [e1, e2]
    by_cases he : i ∈ dis l p
    · have z := (zp_zero (dis l p) i).mpr he
      have hbi := hb (i : Rat)
      rw [z] at hbi ⊢
      grind
    · have hpi : p (i : Rat) = liR l i := Decidable.not_not.mp fun z => he (dis_mem.mpr ⟨hi, z⟩)
      rw [hpi, hb]
      grind) (spec_kernel hp hk hf hn)
  unfold Vbcead.changesBy
  rw [ph_equations, ph_solved, hs]
  have edrop : (((List.range (k + f + f)).map fun j => if j < k + f then a j else b (j - (k + f))).map ph).drop (k + f) = ((List.range f).map b).map ph := by
    rw [← List.map_drop, ← List.map_drop, List.range_add, List.drop_left' (by rw [List.length_range])]
    refine congrArg (List.map ph) ?_
    rw [List.map_map]
    refine List.map_congr_left fun q _ => ?_
    show (if k + f + q < k + f then _ else _) = _
    rw [if_neg (by omega), show k + f + q - (k + f) = q by omega]
  have ebad : Vbcead.zeros ((((List.range (k + f + f)).map fun j => if j < k + f then a j else b (j - (k + f))).map ph).drop (k + f)) l.length = dis l p := by
    rw [edrop, ph_zeros]
    unfold dis
    refine filter_own fun i hi => ?_
    rw [horner_is, List.length_map, List.length_range, pl_congr (e := b) (fun q hq => by rw [List.getD_eq_getElem?_getD, List.getElem?_map, List.getElem?_range hq] <;> rfl)]
    show decide ((i : Rat) ^ f + pl f b (i : Rat) = 0) = _
    rw [← hb, Bool.eq_iff_iff, decide_eq_true_eq, decide_eq_true_eq, zp_zero, dis_mem]
    exact ⟨fun h => h.2, fun h => ⟨hi, h⟩⟩
  have egood : ((List.range l.length).filter fun i => !(dis l p).contains i) = ags l p := by
    unfold ags
    refine filter_own fun i hi => ?_
    rw [Bool.eq_iff_iff, decide_eq_true_eq, Bool.not_eq_true', ← Bool.not_eq_true, List.contains_iff_mem, dis_mem]
    exact ⟨fun h => Decidable.not_not.mp fun z => h ⟨hi, z⟩, fun h z => z.2 h⟩
  show (if (Vbcead.offAgainst k l ((List.range l.length).filter fun i => !(Vbcead.zeros ((((List.range (k + f + f)).map fun j => if j < k + f then a j else b (j - (k + f))).map ph).drop (k + f)) l.length).contains i)).length = f ∧ k ≤ ((List.range l.length).filter fun i => !(Vbcead.zeros ((((List.range (k + f + f)).map fun j => if j < k + f then a j else b (j - (k + f))).map ph).drop (k + f)) l.length).contains i).length then some (Vbcead.offAgainst k l ((List.range l.length).filter fun i => !(Vbcead.zeros ((((List.range (k + f + f)).map fun j => if j < k + f then a j else b (j - (k + f))).map ph).drop (k + f)) l.length).contains i)) else none) = _
  rw [ebad, egood, off_is (ags_nd l p)]
  have hkl : k ≤ (ags l p).length := by omega
  have same : ∀ x, lagR l ((ags l p).take k) x = p x := fun x => by
    have nd' := List.Sublist.nodup (List.take_sublist k (ags l p)) (ags_nd l p)
    have hl' : ((ags l p).take k).length = k := by rw [List.length_take, Nat.min_eq_left hkl]
    have pd := lag_pd (l := l) nd'
    rw [hl'] at pd
    refine pd_same pd hp nd' (by omega) (fun r hr => ?_) x
    rw [lag_at nd' hr, (ags_mem.mp (List.mem_of_mem_take hr)).2]
  have eo : offR l (lagR l ((ags l p).take k)) = offR l p := by
    unfold offR
    rw [dis_congr same]
    exact List.map_congr_left fun i _ => by rw [same]
  have hlen : (phP (offR l p)).length = f := by
    unfold offR
    rw [List.length_map, List.length_map]
    exact hf
  rw [eo, if_pos ⟨hlen, hkl⟩]
end
end CE
namespace CE
/-! ### The program's way of solving equations finds the one answer -/
abbrev enR (rows : List (List Int)) (i j : Nat) : Rat := ((ent rows i j : Int) : Rat)
/-- all rows, times v: 0 -/
def Zr (n : Nat) (rows : List (List Int)) (v : Nat → Rat) : Prop := ∀ i, i < n → sm (n + 1) (fun j => enR rows i j * v j) = 0
theorem cast0 {z : Int} (h : (z : Rat) = 0) : z = 0 := by exact_mod_cast h
theorem step_ent {n t : Nat} {rs : List (List Int)} (G : GJ n t rs) (ht : t < n) {p : Nat} (ep : pivM rs t = (p : Int)) (hp : p < rs.length) {o : Nat} (ho : o < n) (hne : o ≠ t) :
    ∃ g : Rat, g ≠ 0 ∧ ∀ c, c < n + 1 → enR (swapM rs t p) o c * enR (swapM rs t p) t t - enR (swapM rs t p) t c * enR (swapM rs t p) o t = g * enR (stepM rs t) o c := by
  have hlen := G.len
  have swl := swapM_len rs t p
  have hr : ∀ o, o < n → ((swapM rs t p).getD o []).length = n + 1 := fun o ho => by
    rw [swapM_get (by omega) hp o]
    split
    · exact G.row _ (row_mem (by omega))
    · split
      · exact G.row _ (row_mem hp)
      · exact G.row _ (row_mem (by omega))
  obtain ⟨g, hg, hgc⟩ := redM_get (clrM ((swapM rs t p).getD o []) ((swapM rs t p).getD t []) t)
  refine ⟨(g : Rat), fun z => hg (by exact_mod_cast z), fun c hc => ?_⟩
  have e1 : ent (stepM rs t) o c = (redM (clrM ((swapM rs t p).getD o []) ((swapM rs t p).getD t []) t)).getD c 0 := by
    unfold ent stepM
    rw [ep, Int.toNat_natCast, clearTo_get (by omega), if_pos ⟨by omega, hne⟩]
  have e2 := hgc c
  rw [clrM_get (by rw [hr o ho, hr t ht]) (by rw [hr o ho]; exact hc)] at e2
  unfold enR
  rw [e1]
  have e2 : ent (swapM rs t p) o c * ent (swapM rs t p) t t - ent (swapM rs t p) t c * ent (swapM rs t p) o t = g * (redM (clrM ((swapM rs t p).getD o []) ((swapM rs t p).getD t []) t)).getD c 0 := e2
  rw [← Rat.intCast_mul, ← Rat.intCast_mul, ← Rat.intCast_mul, ← Rat.intCast_sub, e2]
theorem step_ent_t {n t : Nat} {rs : List (List Int)} (G : GJ n t rs) (ht : t < n) {p : Nat} (ep : pivM rs t = (p : Int)) (c : Nat) : ent (stepM rs t) t c = ent (swapM rs t p) t c := by
  have hlen := G.len
  have swl := swapM_len rs t p
  unfold ent stepM
  rw [ep, Int.toNat_natCast, clearTo_get (by omega), if_neg (by omega)]
theorem z_swap {n t p : Nat} {rs : List (List Int)} (hl : rs.length = n) (ht : t < n) (hp : p < n) {v : Nat → Rat} : Zr n rs v ↔ Zr n (swapM rs t p) v := by
  have e : ∀ o c, ent (swapM rs t p) o c = ent rs (if o = p then t else if o = t then p else o) c := fun o c => by
    unfold ent
    rw [swapM_get (by omega) (by omega)]
    split
    · rfl
    · split <;> rfl
  refine ⟨fun h i hi => ?_, fun h i hi => ?_⟩
  · rw [sm_congr fun j _ => by rw [show enR (swapM rs t p) i j = enR rs (if i = p then t else if i = t then p else i) j from by unfold enR; rw [e]]]
    refine h _ ?_
    split
    · exact ht
    · split
      · exact hp
      · exact hi
  · have := h (if i = p then t else if i = t then p else i) (by
      split
      · exact ht
      · split
        · exact hp
        · exact hi)
    rw [← this]
    refine sm_congr fun j _ => ?_
    unfold enR
    rw [e]
    congr 3
    by_cases h1 : i = p
    · by_cases h2 : t = p
      · rw [if_pos h1, if_pos h2]; omega
      · rw [if_pos h1, if_neg h2, if_pos rfl]; exact h1
    · by_cases h2 : i = t
      · rw [if_neg h1, if_pos h2, if_pos rfl]; exact h2
      · rw [if_neg h1, if_neg h2, if_neg h1, if_neg h2]
theorem z_step {n t : Nat} {rs : List (List Int)} (G : GJ n t rs) (ht : t < n) (h : ¬ pivM rs t < 0) {v : Nat → Rat} : Zr n rs v ↔ Zr n (stepM rs t) v := by
  obtain ⟨p, ep, hp1, hp2, hp3⟩ := piv_ok h
  have hlen := G.len
  rw [z_swap hlen ht (by omega : p < n)]
  have htt : enR (swapM rs t p) t t ≠ 0 := fun z => hp3 (by
    have z : ent (swapM rs t p) t t = 0 := cast0 z
    unfold ent at z
    rw [swapM_get (by omega) hp2] at z
    by_cases e : t = p
    · rw [if_pos e] at z
      rw [← e]
      exact z
    · rw [if_neg e, if_pos rfl] at z
      exact z)
  have et : (sm (n + 1) fun j => enR (stepM rs t) t j * v j) = sm (n + 1) fun j => enR (swapM rs t p) t j * v j := sm_congr fun j _ => by unfold enR; rw [step_ent_t G ht ep]
  have eo : ∀ o, o < n → o ≠ t → ∃ g : Rat, g ≠ 0 ∧ enR (swapM rs t p) t t * (sm (n + 1) fun j => enR (swapM rs t p) o j * v j) - enR (swapM rs t p) o t * (sm (n + 1) fun j => enR (swapM rs t p) t j * v j) = g * sm (n + 1) fun j => enR (stepM rs t) o j * v j := fun o ho hne => by
    obtain ⟨g, hg, hgc⟩ := step_ent G ht ep hp2 ho hne
    refine ⟨g, hg, ?_⟩
    rw [← sm_mul, ← sm_mul, ← sm_mul, show ∀ a b : Rat, a - b = a + (-1) * b from fun a b => by grind, ← sm_mul, ← sm_add]
    refine sm_congr fun j hj => ?_
    have := hgc j hj
    grind
  refine ⟨fun z i hi => ?_, fun z i hi => ?_⟩
  · by_cases e : i = t
    · subst e
      rw [et]
      exact z i hi
    · obtain ⟨g, hg, q⟩ := eo i hi e
      rw [z i hi, z t ht] at q
      grind
  · by_cases e : i = t
    · subst e
      rw [← et]
      exact z i hi
    · obtain ⟨g, hg, q⟩ := eo i hi e
      rw [z i hi, ← et, z t ht] at q
      grind
theorem z_all {n : Nat} {rows : List (List Int)} (G : GJ n 0 rows) {v : Nat → Rat} : ∀ t, t ≤ n → ∀ rs, gjTo rows t = some rs → (Zr n rows v ↔ Zr n rs v)
  | 0, _, rs, e => by
    cases e
    exact Iff.rfl
  | t + 1, ht, rs, e => by
    unfold gjTo at e
    cases q : gjTo rows t with
    | none => rw [q] at e; cases e
    | some rs' =>
      rw [q] at e
      have e' : (if pivM rs' t < 0 then none else some (stepM rs' t)) = some rs := e
      by_cases hp : pivM rs' t < 0
      · rw [if_pos hp] at e'; cases e'
      · rw [if_neg hp] at e'
        obtain rfl := Option.some.inj e'
        exact (z_all G t (by omega) rs' q).trans (z_step (gj_all G t (by omega) rs' q) (by omega) hp)
theorem piv_neg {rows : List (List Int)} {t : Nat} (h : pivM rows t < 0) : ∀ i, t ≤ i → i < rows.length → ent rows i t = 0 := fun i h1 h2 => by
  unfold pivM at h
  cases e : (List.range (rows.length - t)).find? fun i => decide (ent rows (t + i) t ≠ 0) with
  | some j =>
    rw [e] at h
    have h : ((t + j : Nat) : Int) < 0 := h
    omega
  | none =>
    have := List.find?_eq_none.mp e (i - t) (List.mem_range.mpr (by omega))
    rw [show t + (i - t) = i by omega] at this
    exact Decidable.not_not.mp fun z => this (decide_eq_true z)
/-- where a row lacks, there is an answer but 0 -/
theorem no_pivot {n t : Nat} {rs : List (List Int)} (G : GJ n t rs) (ht : t < n) (h : pivM rs t < 0) : ∃ v : Nat → Rat, Zr n rs v ∧ v n = 0 ∧ v t ≠ 0 := by
  have hlen := G.len
  refine ⟨fun j => if j < t then -(enR rs j t) / enR rs j j else if j = t then 1 else 0, fun i hi => ?_, ?_, ?_⟩
  · by_cases hit : i < t
    · -- two places count
      have hd : enR rs i i ≠ 0 := fun z => G.diag i hit (cast0 z)
      have e : sm (n + 1) (fun j => enR rs i j * (if j < t then -(enR rs j t) / enR rs j j else if j = t then 1 else 0)) = sm (n + 1) (fun j => (if j = i then -(enR rs i t) else 0) + (if j = t then enR rs i t else 0)) := sm_congr fun j hj => by
        by_cases h1 : j < t
        · rw [if_pos h1, if_neg (by omega : ¬ j = t)]
          by_cases h2 : j = i
          · subst h2
            rw [if_pos rfl]
            grind
          · rw [if_neg h2, show enR rs i j = 0 from by unfold enR; rw [G.off j h1 i hi (Ne.symm h2)]; rfl]
            grind
        · rw [if_neg h1, if_neg (by omega : ¬ j = i)]
          by_cases h2 : j = t
          · rw [if_pos h2, if_pos h2, h2]
            grind
          · rw [if_neg h2, if_neg h2]
            grind
      rw [e, sm_add, sm_one (j := i) (by omega) fun j _ hne => if_neg hne, sm_one (j := t) (by omega) fun j _ hne => if_neg hne, if_pos rfl, if_pos rfl]
      grind
    · refine sm_zero fun j hj => ?_
      show enR rs i j * (if j < t then _ else _) = 0
      by_cases h1 : j < t
      · rw [show enR rs i j = 0 from by unfold enR; rw [G.off j h1 i hi (by omega)]; rfl]
        grind
      · rw [if_neg h1]
        by_cases h2 : j = t
        · subst h2
          rw [show enR rs i j = 0 from by unfold enR; rw [piv_neg h i (by omega) (by omega)]; rfl]
          grind
        · rw [if_neg h2]
          grind
  · show (if n < t then _ else _) = (0 : Rat)
    rw [if_neg (by omega), if_neg (by omega)]
  · show ¬ (if t < t then _ else _) = (0 : Rat)
    rw [if_neg (by omega), if_pos rfl]
    decide
theorem solvedM_is {rows : List (List Int)} {w : Nat → Rat} (G : GJ rows.length 0 rows) (hw : Zr rows.length rows (fun j => if j < rows.length then w j else -1)) (K : ∀ v : Nat → Rat, v rows.length = 0 → Zr rows.length rows v → ∀ j, j < rows.length → v j = 0) : solvedM rows = (List.range rows.length).map w := by
  have ex : ∀ t, t ≤ rows.length → ∃ rs, gjTo rows t = some rs := fun t => by
    induction t with
    | zero => exact fun _ => ⟨_, rfl⟩
    | succ t ih =>
      intro ht
      obtain ⟨rs, hrs⟩ := ih (by omega)
      have G' := gj_all G t (by omega) rs hrs
      refine ⟨stepM rs t, ?_⟩
      unfold gjTo
      rw [hrs]
      show (if pivM rs t < 0 then none else some (stepM rs t)) = _
      rw [if_neg fun z => ?_]
      obtain ⟨v, v1, v2, v3⟩ := no_pivot G' (by omega) z
      exact v3 (K v v2 ((z_all G t (by omega) rs hrs).mpr v1) t (by omega))
  obtain ⟨rs, hrs⟩ := ex rows.length (Nat.le_refl _)
  have G' := gj_all G rows.length (Nat.le_refl _) rs hrs
  have Z := (z_all G rows.length (Nat.le_refl _) rs hrs).mp hw
  have hlen := G'.len
  unfold solvedM
  rw [hrs]
  show rs.zipIdx.map _ = _
  rw [zipIdx_map rs [], hlen]
  refine List.map_congr_left fun i hi => ?_
  have hi := List.mem_range.mp hi
  show Rat.divInt (ent rs i rows.length) (ent rs i i) = w i
  have hd : enR rs i i ≠ 0 := fun z => G'.diag i hi (cast0 z)
  have z := Z i hi
  have e : sm (rows.length + 1) (fun j => enR rs i j * (if j < rows.length then w j else -1)) = enR rs i i * w i - enR rs i rows.length := by
    show sm rows.length _ + enR rs i rows.length * (if rows.length < rows.length then _ else _) = _
    rw [if_neg (Nat.lt_irrefl _), sm_one (j := i) hi fun j hj hne => by
      rw [show enR rs i j = 0 from by unfold enR; rw [G'.off j hj i hi (Ne.symm hne)]; rfl]
      grind, if_pos hi]
    grind
  rw [e] at z
  rw [Rat.divInt_eq_div]
  show enR rs i rows.length / enR rs i i = w i
  grind
end CE
namespace CE
/-! ### The sums: a polynomial's are 0 -/
theorem weights_ok : ∀ n : Fin 60, (List.range (n.val + 1)).map (wM (n.val + 1)) = chM n.val ∧ (chM n.val).all (fun a => decide (a ≠ 0)) = true := by decide +kernel
theorem weight_is {n i : Nat} (h1 : 1 ≤ n) (h2 : n ≤ 60) (hi : i < n) : wM n i = (chM (n - 1)).getD i 0 ∧ wM n i ≠ 0 := by
  obtain ⟨e1, e2⟩ := weights_ok ⟨n - 1, by omega⟩
  have e1 : (List.range (n - 1 + 1)).map (wM (n - 1 + 1)) = chM (n - 1) := e1
  have e2 : (chM (n - 1)).all (fun a => decide (a ≠ 0)) = true := e2
  rw [show n - 1 + 1 = n by omega] at e1
  have e : (chM (n - 1))[i]? = some (wM n i) := by rw [← e1, List.getElem?_map, List.getElem?_range hi] <;> rfl
  refine ⟨by rw [List.getD_eq_getElem?_getD, e] <;> rfl, ?_⟩
  exact of_decide_eq_true (List.all_eq_true.mp e2 _ (List.mem_of_getElem? e))
theorem pow_addR (x : Rat) (a : Nat) : ∀ b, x ^ (a + b) = x ^ a * x ^ b
  | 0 => by rw [Nat.add_zero, Rat.pow_zero]; grind
  | b + 1 => by
    show x ^ (a + b + 1) = _
    rw [Rat.pow_succ, Rat.pow_succ, pow_addR x a b]
    grind
/-- choices with signs, times a row -/
def sc (k : Nat) (f : Nat → Rat) : Rat := sm (k + 1) fun i => (((chM k).getD i 0 : Int) : Rat) * f i
theorem sc_succ (k : Nat) (f : Nat → Rat) : sc (k + 1) f = sc k fun i => f i - f (i + 1) := by
  unfold sc
  have e : ∀ i, (((chM (k + 1)).getD i 0 : Int) : Rat) = (((chM k).getD i 0 : Int) : Rat) - (if i = 0 then 0 else (((chM k).getD (i - 1) 0 : Int) : Rat)) := fun i => by
    rw [show chM (k + 1) = chStep (chM k) from rfl, chStep_at, Rat.intCast_sub]
    split <;> rfl
  have e1 : (sm (k + 1 + 1) fun i => (((chM (k + 1)).getD i 0 : Int) : Rat) * f i) = sm (k + 1 + 1) fun i => (((chM k).getD i 0 : Int) : Rat) * f i + (-1) * ((if i = 0 then 0 else (((chM k).getD (i - 1) 0 : Int) : Rat)) * f i) := sm_congr fun i _ => by
    rw [e]
    grind
  rw [e1, sm_add, sm_mul]
  have e2 : (sm (k + 1 + 1) fun i => (((chM k).getD i 0 : Int) : Rat) * f i) = sm (k + 1) fun i => (((chM k).getD i 0 : Int) : Rat) * f i := by
    show sm (k + 1) _ + (((chM k).getD (k + 1) 0 : Int) : Rat) * f (k + 1) = _
    rw [getD_over (by rw [chM_len]; omega)]
    show _ + (0 : Rat) * _ = _
    grind
  have e3 : (sm (k + 1 + 1) fun i => (if i = 0 then 0 else (((chM k).getD (i - 1) 0 : Int) : Rat)) * f i) = sm (k + 1) fun i => (((chM k).getD i 0 : Int) : Rat) * f (i + 1) := by
    rw [sm_head]
    rw [if_pos rfl]
    have : (sm (k + 1) fun i => (if i + 1 = 0 then 0 else (((chM k).getD (i + 1 - 1) 0 : Int) : Rat)) * f (i + 1)) = sm (k + 1) fun i => (((chM k).getD i 0 : Int) : Rat) * f (i + 1) := sm_congr fun i _ => by rw [if_neg (by omega), Nat.add_sub_cancel]
    rw [this]
    grind
  rw [e2, e3, ← sm_mul, ← sm_add]
  refine sm_congr fun i _ => ?_
  grind
theorem sc_zero : ∀ (d k : Nat) (q : Rat → Rat), Pd d q → d ≤ k → sc k (fun i => q (i : Rat)) = 0
  | 0, k, q, h, _ => sm_zero fun i _ => by
    show _ * q (i : Rat) = 0
    rw [pd_none h]
    grind
  | d + 1, 0, q, h, hk => by omega
  | d + 1, k + 1, q, h, hk => by
    rw [sc_succ]
    have ih := sc_zero d k (fun x => q x - q (x + 1)) (pd_diff h) (by omega)
    rw [← ih]
    unfold sc
    refine sm_congr fun i _ => ?_
    show _ * (q (i : Rat) - q ((i + 1 : Nat) : Rat)) = _ * (q (i : Rat) - q ((i : Rat) + 1))
    rw [show ((i + 1 : Nat) : Rat) = (i : Rat) + 1 from Rat.natCast_add i 1]
theorem sum_cast (f : Nat → Int) : ∀ n, ((((List.range n).map f).sum : Int) : Rat) = sm n fun i => ((f i : Int) : Rat)
  | 0 => rfl
  | n + 1 => by
    rw [List.range_succ, List.map_append, List.sum_append, Rat.intCast_add, sum_cast f n]
    show _ + (((f n + 0 : Int)) : Rat) = _
    rw [Int.add_zero]
    rfl
theorem sums_get {l : List Int} {many t : Nat} (ht : t < many) : (((sumsM l many).getD t 0 : Int) : Rat) = sm l.length fun i => ((wM l.length i : Int) : Rat) * liR l i * (i : Rat) ^ t := by
  unfold sumsM
  rw [getD_map_range ht]
  unfold partsM
  rw [sum_cast]
  refine sm_congr fun i _ => ?_
  rw [Rat.intCast_mul, Rat.intCast_mul, Rat.intCast_pow]
  rfl
/-- what a line adds to the sums -/
def gR (l : List Int) (p : Rat → Rat) (i : Nat) : Rat := ((wM l.length i : Int) : Rat) * (liR l i - p (i : Rat))
theorem sums_of {k : Nat} {l : List Int} {p : Rat → Rat} (hp : Pd k p) (hl1 : 1 ≤ l.length) (hl : l.length ≤ 60) {t : Nat} (ht : t < l.length - k) : (((sumsM l (l.length - k)).getD t 0 : Int) : Rat) = sm l.length fun i => gR l p i * (i : Rat) ^ t := by
  rw [sums_get ht]
  have z := sc_zero (t + k) (l.length - 1) (fun x => x ^ t * p x) (pd_prod hp (pd_pow t)) (by omega)
  unfold sc at z
  rw [show l.length - 1 + 1 = l.length by omega] at z
  have e : (sm l.length fun i => (((chM (l.length - 1)).getD i 0 : Int) : Rat) * ((i : Rat) ^ t * p (i : Rat))) = sm l.length fun i => ((wM l.length i : Int) : Rat) * p (i : Rat) * (i : Rat) ^ t := sm_congr fun i hi => by
    rw [(weight_is hl1 hl hi).1]
    grind
  rw [e] at z
  have e2 : (sm l.length fun i => ((wM l.length i : Int) : Rat) * liR l i * (i : Rat) ^ t) = sm l.length fun i => gR l p i * (i : Rat) ^ t + ((wM l.length i : Int) : Rat) * p (i : Rat) * (i : Rat) ^ t := sm_congr fun i _ => by
    unfold gR
    grind
  rw [e2, sm_add, z]
  grind
/-! #### the equations of the sums -/
theorem hank_len (S : List Int) (s : Nat) : (hankM S s).length = s := by unfold hankM; rw [List.length_map, List.length_range]
theorem hank_row {S : List Int} {s j : Nat} (hj : j < s) : (hankM S s).getD j [] = (S.drop j).take s ++ [0 - S.getD (j + s) 0] := by
  unfold hankM
  rw [List.getD_eq_getElem?_getD, List.getElem?_map, List.getElem?_range hj] <;> rfl
theorem hank_a {S : List Int} {s j b : Nat} (h2 : 2 * s ≤ S.length) (hj : j < s) (hb : b < s) : ent (hankM S s) j b = S.getD (j + b) 0 := by
  unfold ent
  rw [hank_row hj, List.getD_eq_getElem?_getD, List.getElem?_append_left (by rw [List.length_take, List.length_drop]; omega), List.getElem?_take_of_lt hb, List.getElem?_drop, ← List.getD_eq_getElem?_getD]
theorem hank_b {S : List Int} {s j : Nat} (h2 : 2 * s ≤ S.length) (hj : j < s) : ent (hankM S s) j s = -(S.getD (j + s) 0) := by
  unfold ent
  have hl : ((S.drop j).take s).length = s := by rw [List.length_take, List.length_drop]; omega
  rw [hank_row hj, List.getD_eq_getElem?_getD, List.getElem?_append_right (by omega), hl, Nat.sub_self]
  show 0 - S.getD (j + s) 0 = _
  omega
section
variable {k s : Nat} {l : List Int} {p : Rat → Rat}
theorem hank_row_sum (hp : Pd k p) (hl1 : 1 ≤ l.length) (hl : l.length ≤ 60) (hn : k + 2 * s ≤ l.length) {j : Nat} (hj : j < s) (v : Nat → Rat) :
    sm (s + 1) (fun b => enR (hankM (sumsM l (l.length - k)) s) j b * v b) = sm l.length fun i => gR l p i * ((i : Rat) ^ j * (pl s v (i : Rat) - (i : Rat) ^ s * v s)) := by
  have hS : (sumsM l (l.length - k)).length = l.length - k := by unfold sumsM; rw [List.length_map, List.length_range]
  have h2 : 2 * s ≤ (sumsM l (l.length - k)).length := by omega
  show sm s _ + enR _ j s * v s = _
  have e1 : (sm s fun b => enR (hankM (sumsM l (l.length - k)) s) j b * v b) = sm l.length fun i => gR l p i * ((i : Rat) ^ j * pl s v (i : Rat)) := by
    have : (sm s fun b => enR (hankM (sumsM l (l.length - k)) s) j b * v b) = sm s fun b => sm l.length fun i => gR l p i * (i : Rat) ^ (j + b) * v b := sm_congr fun b hb => by
      unfold enR
      rw [hank_a h2 hj hb, sums_of hp hl1 hl (by omega)]
      rw [show ∀ a c : Rat, a * c = c * a from fun a c => by grind, ← sm_mul]
      refine sm_congr fun i _ => ?_
      grind
    rw [this, sm_comm]
    refine sm_congr fun i _ => ?_
    unfold pl
    rw [← sm_mul, ← sm_mul]
    refine sm_congr fun b _ => ?_
    rw [pow_addR]
    grind
  have e2 : enR (hankM (sumsM l (l.length - k)) s) j s = (-1) * sm l.length fun i => gR l p i * (i : Rat) ^ (j + s) := by
    unfold enR
    rw [hank_b h2 hj, Rat.intCast_neg, sums_of hp hl1 hl (by omega)]
    grind
  rw [e1, e2, show ∀ a b c : Rat, a + (-1) * b * c = a + (-c) * b from fun a b c => by grind, ← sm_mul, ← sm_add]
  refine sm_congr fun i _ => ?_
  rw [pow_addR]
  grind
theorem g_zero {i : Nat} (hi : i < l.length) (h : i ∉ dis l p) : gR l p i = 0 := by
  have : p (i : Rat) = liR l i := Decidable.not_not.mp fun z => h (dis_mem.mpr ⟨hi, z⟩)
  unfold gR
  rw [this]
  grind
theorem g_ne (hl1 : 1 ≤ l.length) (hl : l.length ≤ 60) {i : Nat} (h : i ∈ dis l p) : gR l p i ≠ 0 := by
  obtain ⟨h1, h2⟩ := dis_mem.mp h
  unfold gR
  have w : ((wM l.length i : Int) : Rat) ≠ 0 := fun z => (weight_is hl1 hl h1).2 (cast0 z)
  intro z
  have : liR l i - p (i : Rat) = 0 := by grind
  exact h2 (by grind)
theorem hank_kernel (hp : Pd k p) (hl1 : 1 ≤ l.length) (hl : l.length ≤ 60) (hn : k + 2 * s ≤ l.length) (hs : (dis l p).length = s) (v : Nat → Rat) (v0 : v s = 0) (hz : Zr s (hankM (sumsM l (l.length - k)) s) v) : ∀ b, b < s → v b = 0 := by
  have hj : ∀ j, j < s → (sm l.length fun i => gR l p i * pl s v (i : Rat) * (i : Rat) ^ j) = 0 := fun j hj => by
    have := hz j hj
    rw [hank_row_sum hp hl1 hl hn hj, v0] at this
    rw [← this]
    refine sm_congr fun i _ => ?_
    grind
  have hh : ∀ h : Rat → Rat, Pd s h → (sm l.length fun i => gR l p i * pl s v (i : Rat) * h (i : Rat)) = 0 := fun h ⟨c, hc⟩ => by
    have : (sm l.length fun i => gR l p i * pl s v (i : Rat) * h (i : Rat)) = sm l.length fun i => sm s fun j => c j * (gR l p i * pl s v (i : Rat) * (i : Rat) ^ j) := sm_congr fun i _ => by
      rw [hc]
      show _ * (sm s fun a => c a * (i : Rat) ^ a) = _
      rw [← sm_mul]
      refine sm_congr fun j _ => ?_
      grind
    rw [this, sm_comm]
    refine sm_zero fun j hj' => ?_
    rw [sm_mul, hj j hj']
    grind
  have := roots (dis l p) v (dis_nd l p) fun e he => by
    rw [hs]
    have hlen := filter_ne_len (dis_nd l p) he
    have pd := zp_pd ((dis l p).filter fun o => decide (o ≠ e))
    rw [hlen, hs] at pd
    have z := hh _ pd
    rw [sm_one (j := e) (dis_mem.mp he).1 fun i hi hne => by
      by_cases hm : i ∈ dis l p
      · rw [(zp_zero _ i).mpr (List.mem_filter.mpr ⟨hm, decide_eq_true hne⟩)]
        grind
      · rw [g_zero hi hm]
        grind] at z
    have z1 : zp ((dis l p).filter fun o => decide (o ≠ e)) (e : Rat) ≠ 0 := fun q => by
      have := List.mem_filter.mp ((zp_zero _ e).mp q)
      exact of_decide_eq_true this.2 rfl
    have z2 := g_ne hl1 hl he
    grind
  rw [hs] at this
  exact this
theorem hank_solved (hp : Pd k p) (hl1 : 1 ≤ l.length) (hl : l.length ≤ 60) (hn : k + 2 * s ≤ l.length) (hs : (dis l p).length = s) (hb : ∀ j, j < 2 * s → ((sumsM l (l.length - k)).getD j 0).natAbs < 2 ^ 520) :
    ∃ c : Nat → Rat, (∀ x, zp (dis l p) x = x ^ s + pl s c x) ∧ solvedM (hankM (sumsM l (l.length - k)) s) = (List.range s).map c := by
  obtain ⟨c, hc⟩ := zp_monic (dis l p)
  rw [hs] at hc
  have hS : (sumsM l (l.length - k)).length = l.length - k := by unfold sumsM; rw [List.length_map, List.length_range]
  have hh := hank_len (sumsM l (l.length - k)) s
  refine ⟨c, hc, ?_⟩
  have G := hank_ok (S := sumsM l (l.length - k)) (s := s) (by omega) hb
  have := solvedM_is (rows := hankM (sumsM l (l.length - k)) s) (w := c) G (by
    rw [hh]
    intro j hj
    rw [hank_row_sum hp hl1 hl hn hj]
    refine sm_zero fun i hi => ?_
    rw [if_neg (Nat.lt_irrefl s), pl_congr (e := c) (fun a ha => if_pos ha)]
    by_cases hm : i ∈ dis l p
    · have z := (zp_zero (dis l p) i).mpr hm
      rw [hc] at z
      grind
    · rw [g_zero hi hm]
      grind) (by
    rw [hh]
    exact fun v v0 hz => hank_kernel hp hl1 hl hn hs v v0 hz)
  rw [hh] at this
  exact this
end
/-! #### what a line is worth -/
theorem whole_dvd : ∀ (nums : List Rat) (a : Int), a ∣ nums.foldl (fun w q => w * (q.den : Int)) a ∧ ∀ q ∈ nums, (q.den : Int) ∣ nums.foldl (fun w q => w * (q.den : Int)) a
  | [], a => ⟨Int.dvd_refl a, fun q hq => nomatch hq⟩
  | r :: nums, a => by
    obtain ⟨h1, h2⟩ := whole_dvd nums (a * (r.den : Int))
    refine ⟨Int.dvd_trans (Int.dvd_mul_right _ _) h1, fun q hq => ?_⟩
    rcases List.mem_cons.mp hq with rfl | hq
    · exact Int.dvd_trans (Int.dvd_mul_left _ _) h1
    · exact h2 q hq
theorem whole_ne : ∀ (nums : List Rat) (a : Int), a ≠ 0 → nums.foldl (fun w q => w * (q.den : Int)) a ≠ 0
  | [], _, h => h
  | r :: nums, a, h => whole_ne nums _ (Int.mul_ne_zero h (by have := r.den_nz; omega))
theorem worth_is (nums : List Rat) (x : Nat) : ((worthM nums (x : Int) : Int) : Rat) = ((wholeM nums : Int) : Rat) * ((x : Rat) ^ nums.length + pl nums.length (fun b => nums.getD b 0) (x : Rat)) := by
  have key : ∀ i, i ≤ nums.length → ((foundTo nums (x : Int) i : Int) : Rat) = ((wholeM nums : Int) : Rat) * pl i (fun b => nums.getD b 0) (x : Rat) := fun i => by
    induction i with
    | zero =>
      intro _
      show ((0 : Int) : Rat) = _ * 0
      rw [show ((0 : Int) : Rat) = 0 from rfl]
      grind
    | succ i ih =>
      intro hi
      have ih := ih (by omega)
      have e : foundTo nums (x : Int) (i + 1) = foundTo nums (x : Int) i + (nums.getD i 0).num * (wholeM nums / ((nums.getD i 0).den : Int)) * (x : Int) ^ i := by
        unfold foundTo
        rw [List.range_succ, List.foldl_append]
        rfl
      rw [e, Rat.intCast_add, ih]
      show _ = _ * (pl i _ _ + nums.getD i 0 * (x : Rat) ^ i)
      have hm : nums.getD i 0 ∈ nums := by
        rw [List.getD_eq_getElem?_getD, List.getElem?_eq_getElem (by omega)]
        exact List.getElem_mem _
      obtain ⟨q, hq⟩ := (whole_dvd nums 1).2 _ hm
      have hw : wholeM nums = ((nums.getD i 0).den : Int) * q := hq
      have hd : ((nums.getD i 0).den : Int) ≠ 0 := by have := (nums.getD i 0).den_nz; omega
      rw [hw, Int.mul_ediv_cancel_left _ hd, Rat.intCast_mul, Rat.intCast_mul, Rat.intCast_mul, Rat.intCast_pow]
      have hr : (((nums.getD i 0).num : Int) : Rat) = (((nums.getD i 0).den : Int) : Rat) * nums.getD i 0 := by
        have h1 := Rat.num_divInt_den (nums.getD i 0)
        rw [Rat.divInt_eq_div] at h1
        have hdR : (((nums.getD i 0).den : Int) : Rat) ≠ 0 := fun z => hd (cast0 z)
        generalize nums.getD i 0 = r at h1 hdR ⊢
        generalize ((r.num : Int) : Rat) = A at h1 ⊢
        generalize (((r.den : Int)) : Rat) = B at h1 hdR ⊢
        rw [← h1]
        grind
      rw [hr]
      show _ = (((nums.getD i 0).den : Int) : Rat) * (q : Rat) * (pl i _ _ + nums.getD i 0 * (x : Rat) ^ i)
      rw [show (((x : Int)) : Rat) = (x : Rat) from rfl]
      grind
  unfold worthM
  rw [Rat.intCast_add, key _ (Nat.le_refl _), Rat.intCast_mul, Rat.intCast_pow]
  rw [show (((x : Int)) : Rat) = (x : Rat) from rfl]
  grind
theorem gone_is {s : Nat} {l : List Int} {p : Rat → Rat} {c : Nat → Rat} (hs : (dis l p).length = s) (hc : ∀ x, zp (dis l p) x = x ^ s + pl s c x) : goneM ((List.range s).map c) l.length = dis l p := by
  unfold goneM
  by_cases h0 : s = 0
  · subst h0
    have : dis l p = [] := List.length_eq_zero_iff.mp hs
    rw [this]
    refine List.filter_eq_nil_iff.mpr fun x _ => ?_
    show ¬ ((!decide (([] : List Rat) = [])) && _) = true
    simp
  · unfold dis
    refine filter_own fun x hx => ?_
    have hn : ¬ ((List.range s).map c) = [] := fun z => h0 (by
      have := congrArg List.length z
      rw [List.length_map, List.length_range] at this
      exact this)
    rw [decide_eq_false hn, Bool.not_false, Bool.true_and, Bool.eq_iff_iff, decide_eq_true_eq, decide_eq_true_eq]
    have hw : ((wholeM ((List.range s).map c) : Int) : Rat) ≠ 0 := fun z => whole_ne _ 1 (by decide) (cast0 z)
    have e := worth_is ((List.range s).map c) x
    rw [List.length_map, List.length_range, pl_congr (e := c) (fun q hq => by rw [List.getD_eq_getElem?_getD, List.getElem?_map, List.getElem?_range hq] <;> rfl), ← hc] at e
    rw [show (p (x : Rat) ≠ liR l x) ↔ x ∈ dis l p from ⟨fun h => dis_mem.mpr ⟨hx, h⟩, fun h => (dis_mem.mp h).2⟩, ← zp_zero]
    refine ⟨fun h => ?_, fun h => cast0 ?_⟩
    · rw [h] at e
      have e : (0 : Rat) = _ := e
      grind
    · rw [e, h]
      grind
end CE
namespace CE
/-! ### The least change: both ways -/
section
variable {k s : Nat} {l : List Int} {p : Rat → Rat}
theorem lag_ags (hp : Pd k p) (hkl : k ≤ (ags l p).length) (x : Rat) : lagR l ((ags l p).take k) x = p x := by
  have nd' := List.Sublist.nodup (List.take_sublist k (ags l p)) (ags_nd l p)
  have hl' : ((ags l p).take k).length = k := by rw [List.length_take, Nat.min_eq_left hkl]
  have pd := lag_pd (l := l) nd'
  rw [hl'] at pd
  refine pd_same pd hp nd' (by omega) (fun r hr => ?_) x
  rw [lag_at nd' hr, (ags_mem.mp (List.mem_of_mem_take hr)).2]
theorem try_complete (hp : Pd k p) (hl1 : 1 ≤ l.length) (hl : l.length ≤ 60) (hb : ∀ a ∈ l, a.natAbs < 2 ^ 110) (hs4 : s ≤ 4) (hn : k + 2 * s ≤ l.length) (hs : (dis l p).length = s) : tryM l k s = some (offR l p) := by
  have two := two_len l p
  obtain ⟨c, hc, hsol⟩ := hank_solved hp hl1 hl hn hs (fun j hj => by
    unfold sumsM
    rw [getD_map_range (by omega)]
    exact parts_lt hl hb (by omega))
  have eg : goneM (solvedM (hankM (sumsM l (l.length - k)) s)) l.length = dis l p := by rw [hsol]; exact gone_is hs hc
  have el : locM (sumsM l (l.length - k)) s l.length = dis l p := by
    unfold locM
    rw [eg, if_pos hs]
  have hkl : k ≤ (ags l p).length := by omega
  have ep : placesM k l.length (dis l p) = (ags l p).take k := by
    unfold placesM
    congr 1
    unfold ags
    refine filter_own fun i hi => ?_
    rw [Bool.eq_iff_iff, decide_eq_true_eq, Bool.not_eq_true', ← Bool.not_eq_true, List.contains_iff_mem, dis_mem]
    exact ⟨fun h => Decidable.not_not.mp fun z => h ⟨hi, z⟩, fun h z => z.2 h⟩
  have et : ∀ x : Nat, thrM l ((ags l p).take k) x = p (x : Rat) := fun x => by rw [thr_is, lag_ags hp hkl]
  have hthru : thruM l ((ags l p).take k) (dis l p) = true := by
    unfold thruM
    refine List.all_eq_true.mpr fun x hx => ?_
    have hx := List.mem_range.mp hx
    rw [et, Bool.or_eq_true, List.contains_iff_mem, decide_eq_true_eq, dis_mem]
    by_cases h : p (x : Rat) = liR l x
    · exact .inr h
    · exact .inl ⟨hx, h⟩
  unfold tryM
  rw [el, ep, if_pos ⟨hs, hthru⟩]
  congr 1
  unfold offR
  exact List.map_congr_left fun i _ => by rw [et]
theorem try_sound {res : List (Nat × Rat)} (hn : k + 2 * s ≤ l.length) (h : tryM l k s = some res) : ∃ p, Pd k p ∧ (dis l p).length ≤ s ∧ ((dis l p).length = s → res = offR l p) := by
  unfold tryM at h
  have hform : ∃ Q : Nat → Bool, locM (sumsM l (l.length - k)) s l.length = (List.range l.length).filter Q := by
    unfold locM
    split
    · exact ⟨_, rfl⟩
    · refine ⟨fun _ => false, (List.filter_eq_nil_iff.mpr fun _ _ => by decide).symm⟩
  generalize locM (sumsM l (l.length - k)) s l.length = gone at h hform
  obtain ⟨Q, hQ⟩ := hform
  by_cases hc : gone.length = s ∧ thruM l (placesM k l.length gone) gone = true
  · rw [if_pos hc] at h
    obtain ⟨h1, h2⟩ := hc
    obtain rfl := Option.some.inj h
    have ndp : (placesM k l.length gone).Nodup := List.Sublist.nodup ((List.take_sublist _ _).trans List.filter_sublist) List.nodup_range
    have hpl : (placesM k l.length gone).length = k := by
      unfold placesM
      have hcon : ∀ i, i < l.length → gone.contains i = Q i := fun i hi => by
        rw [Bool.eq_iff_iff, List.contains_iff_mem, hQ, List.mem_filter, List.mem_range]
        exact ⟨fun z => z.2, fun z => ⟨hi, z⟩⟩
      have := filter_two (f := Q) (g := fun i => !Q i) (fun _ => rfl) (List.range l.length)
      rw [← hQ, h1, List.length_range] at this
      rw [filter_own (P := fun i => !Q i) (fun i hi => by rw [hcon i hi]), List.length_take]
      omega
    have pd := lag_pd (l := l) ndp
    rw [hpl] at pd
    have hsub : dis l (lagR l (placesM k l.length gone)) = gone.filter fun (i : Nat) => decide (lagR l (placesM k l.length gone) (i : Rat) ≠ liR l i) := by
      rw [show (gone.filter fun (i : Nat) => decide (lagR l (placesM k l.length gone) (i : Rat) ≠ liR l i)) = ((List.range l.length).filter Q).filter fun (i : Nat) => decide (lagR l (placesM k l.length gone) (i : Rat) ≠ liR l i) from by rw [← hQ], List.filter_filter]
      unfold dis
      refine filter_own fun i hi => ?_
      have := List.all_eq_true.mp h2 i (List.mem_range.mpr hi)
      rw [Bool.or_eq_true, List.contains_iff_mem, decide_eq_true_eq, thr_is] at this
      rw [Bool.eq_iff_iff, Bool.and_eq_true]
      refine ⟨fun z => ⟨z, ?_⟩, fun z => z.1⟩
      rcases this with q | q
      · rw [hQ] at q
        exact (List.mem_filter.mp q).2
      · exact absurd q (of_decide_eq_true z)
    refine ⟨_, pd, ?_, fun he => ?_⟩
    · rw [hsub, ← h1]
      exact List.length_filter_le _ _
    · rw [hsub, ← h1] at he
      have all := List.length_filter_eq_length_iff.mp he
      have e : dis l (lagR l (placesM k l.length gone)) = gone := by rw [hsub]; exact List.filter_eq_self.mpr all
      unfold offR
      rw [e]
      exact List.map_congr_left fun i _ => by rw [thr_is]
  · rw [if_neg hc] at h; cases h
end
theorem born_is (n k : Nat) : Vbcead.bears k n = bornM n k := rfl
theorem mend_is {k : Nat} {l : List Int} (hk : 1 ≤ k) (hkl : k ≤ l.length) (hl : l.length ≤ 60) (hb : ∀ a ∈ l, a.natAbs < 2 ^ 110) : Vbcead.mended k l = (mendM l k).map phP := by
  have bnd : ∀ s, s < bornM l.length k + 1 → s ≤ 4 ∧ k + 2 * s ≤ l.length := fun s hs => by
    unfold bornM at hs
    omega
  -- where the specification finds one, the program does
  have h1 : ∀ s, s < bornM l.length k + 1 → tryM l k s = none → Vbcead.changesBy k s l = none := fun s hs h => by
    obtain ⟨b1, b2⟩ := bnd s hs
    cases e : Vbcead.changesBy k s l with
    | none => rfl
    | some off =>
      obtain ⟨p, hp, hd⟩ := spec_sound e
      rw [try_complete hp (by omega) hl hb b1 b2 hd] at h
      cases h
  have h2 : ∀ s res, s < bornM l.length k + 1 → tryM l k s = some res → (∀ t, t < s → tryM l k t = none) → Vbcead.changesBy k s l = some (phP res) := fun s res hs h hmin => by
    obtain ⟨b1, b2⟩ := bnd s hs
    obtain ⟨p, hp, hd1, hd2⟩ := try_sound b2 h
    have hd : (dis l p).length = s := by
      rcases Nat.lt_or_ge (dis l p).length s with q | q
      · have := try_complete hp (by omega) hl hb (s := (dis l p).length) (by omega) (by omega) rfl
        rw [hmin _ q] at this
        cases this
      · omega
    rw [hd2 hd]
    exact spec_complete hp hk hd (by omega)
  unfold Vbcead.mended mendM
  rw [born_is]
  cases e : (List.range (bornM l.length k + 1)).findSome? (tryM l k) with
  | none =>
    refine find_someN fun s hs => h1 s hs ?_
    exact List.findSome?_eq_none_iff.mp e s (List.mem_range.mpr hs)
  | some res =>
    have hex : ∀ N, (List.range N).findSome? (tryM l k) = some res → ∃ s, s < N ∧ tryM l k s = some res ∧ ∀ t, t < s → tryM l k t = none := fun N => by
      induction N with
      | zero => intro z; cases z
      | succ N ih =>
        intro z
        rw [List.range_succ, List.findSome?_append] at z
        cases q : (List.range N).findSome? (tryM l k) with
        | some r =>
          rw [q] at z
          obtain rfl : r = res := Option.some.inj z
          obtain ⟨s, a1, a2, a3⟩ := ih q
          exact ⟨s, by omega, a2, a3⟩
        | none =>
          rw [q] at z
          rw [Option.none_or, List.findSome?_cons] at z
          refine ⟨N, by omega, ?_, fun t ht => List.findSome?_eq_none_iff.mp q t (List.mem_range.mpr ht)⟩
          cases w : tryM l k N with
          | none => rw [w] at z; cases z
          | some r => rw [w] at z; exact z
    obtain ⟨s, a1, a2, a3⟩ := hex _ e
    exact find_some (i := s) a1 (h2 s res a1 a2 a3) fun t ht => h1 t (by omega) (a3 t ht)
theorem changeRow_is (xs : List (Nat × Rat)) : Vbcead.changeRow (phP xs) = (xs.length : Int) :: mendRow xs := by
  unfold Vbcead.changeRow mendRow
  show ((List.map _ xs).length : Int) :: (List.map _ xs).flatMap _ = _
  rw [List.length_map, List.flatMap_map]
  rfl
theorem law_mend {s : Vbcead.State} {m : Dk} (rep : Rep s m) (good : Good m) (k : Int) : Ans m (mendF m k) (Vbcead.step s [[16, k]]) := by
  by_cases h : 1 ≤ k ∧ k + 0 ≤ (m.lines.length : Int)
  · refine law_k rep good (d := .mend k) rfl rfl ?_
    show Vbcead.onLines s k.toNat _ = Vbcead.onLines s k.toNat _
    congr 2
    rw [rep.lines] at h ⊢
    have hll := good.ll
    have hlb := good.lb
    rw [rep.lines] at hll hlb
    rw [mend_is (by omega) (by omega) hll hlb]
    cases mendM s.sheet k.toNat with
    | none => rfl
    | some xs =>
      show 1 :: Vbcead.changeRow (phP xs) = 1 :: (xs.length : Int) :: mendRow xs
      rw [changeRow_is]
  · unfold mendF
    by_cases h1 : 1 ≤ k ∧ k ≤ 7
    · rw [if_pos h1]
      refine ans_no rep good (if_neg (by omega)) ((step_ok (d := .mend k) rfl (btw.mpr h1)).trans (on_few ?_))
      rw [rep.lines] at h
      omega
    · exact ans_no rep good (if_neg h1) (step_no (d := .mend k) rfl (btwN h1))
end CE
namespace CE
open PySem PySem.Spec PyProof.Rows L2
open Evl (Ex rLenS rListS sz_of sz_lt)
/-- the error's class: made as its base's are -/
def oexB (K : PySem.W.Frag) (C : Addr) : Bool := (match K.lookup C with
  | some ⟨.type "type", _, .cls cd, sl⟩ => (match cd.mro, sl.toList with
    | .ref C' :: bm, [_, _, _, _, some (.builtin n), _] => C' == C && n == "ValueError.__new__" && !cd.hasDel && cd.hasDict && PySem.HandSPX.refsVE bm
    | _, _ => false)
  | _ => false) && (He.eqO (PySem.W.findIn K (.ref C) "__setattr__") (some (some (.builtin "object.__setattr__"))) && (decide (PySem.W.subIn K (.ref C) (.type "BaseException") = some true) && (decide (PySem.W.typeIn K (.ref C) = some (.type "type")) && PySem.W.keepIn K (.ref C))))
theorem oexB_ok {K : PySem.W.Frag} {C : Addr} (h : oexB K C = true) : OexC K C := by
  obtain ⟨h1, h⟩ := He.ba h
  obtain ⟨h2, h⟩ := He.ba h
  obtain ⟨h3, h⟩ := He.ba h
  obtain ⟨h4, h5⟩ := He.ba h
  refine ⟨?_, He.eqO_ok h2, of_decide_eq_true h3, of_decide_eq_true h4, h5⟩
  split at h1
  · rename_i dd cd sl ho
    split at h1
    · rename_i C' bm k0 k1 k2 k3 n k5 hm hs
      simp only [Bool.and_eq_true, beq_iff_eq, Bool.not_eq_true'] at h1
      obtain ⟨⟨⟨⟨rfl, rfl⟩, hdel⟩, hdc⟩, hv⟩ := h1
      refine ⟨cd.name, cd.qualname, cd.ns, cd.bases, bm, cd.slotNames, cd.subclasses, cd.abstract, cd.collection, dd, k0, k1, k2, k3, k5, ?_, hv⟩
      rw [ho]
      obtain ⟨nm, bs, mro, ns, q, hd, sn, sub, ab, col, del⟩ := cd
      obtain ⟨sl⟩ := sl
      simp only at hm hs hdel hdc
      subst hm hs hdel hdc
      rfl
    · cases h1
  · cases h1
def hfa0 : List He.Fa := [.free "abs",
  .free "enumerate",
  .free "int",
  .free "len",
  .free "list",
  .free "max",
  .free "min",
  .free "range",
  .free "reversed",
  .free "sum",
  .free "zip",
  .int "MOST_BORNE" 4,
  .int "FIRST_WHEELS" 20,
  .int "MOST_WHEELS" 30,
  .int "MOST_COLUMNS" 7,
  .int "MOST_LINES" 60,
  .int "MOST_DIFFERENCE" 12,
  .int "MOST_RIVAL" 6,
  .int "MOST_X" 1000000,
  .int "MOST_NUMBER" 1000000000000000000]
def hfa1 : List He.Fa := [.glo "shown",
  .glo "signed",
  .glo "turned",
  .glo "turned_back",
  .glo "half_turned",
  .glo "staggered",
  .glo "printed",
  .glo "differences",
  .glo "is_below",
  .glo "start_of",
  .glo "degree_of",
  .glo "value_by",
  .glo "choices",
  .glo "slip_at",
  .glo "clerk",
  .glo "borne",
  .glo "product_at",
  .glo "halfway",
  .glo "common",
  .glo "lowest"]
def hfa2 : List He.Fa := [.glo "value_through",
  .glo "sums",
  .glo "pivot_row",
  .glo "cleared",
  .glo "reduced",
  .glo "solved",
  .glo "worth",
  .glo "located",
  .glo "is_through",
  .glo "mended",
  .glo "ask",
  .glo "size_of",
  .glo "told",
  .glo "ask_within",
  .glo "ask_numbers",
  .glo "ask_start",
  .glo "ask_k",
  .glo "ask_columns",
  .glo "wheels",
  .glo "shown_all"]
def hfa3 : List He.Fa := [.glo "set_columns",
  .glo "columns_told",
  .glo "crank",
  .glo "back",
  .glo "half",
  .glo "skip",
  .glo "sheet",
  .glo "change",
  .glo "differences_told",
  .glo "start_told",
  .glo "value",
  .glo "clean",
  .glo "clerk_told",
  .glo "mend",
  .glo "bears",
  .glo "are_lines",
  .glo "rival",
  .glo "halfway_told",
  .glo "first_unlike",
  .glo "explain"]
def hfa4 : List He.Fa := [.glo "stagger",
  .glo "takes",
  .glo "clear",
  .glo "of_engine",
  .glo "of_sheet",
  .glo "of_slips",
  .glo "answer",
  .glo "answers",
  .glo "Desk",
  .glo "Refused",
  .glo "NUMBERS",
  .glo "WITH_LIST",
  .cls "Desk",
  .noat "Desk" "size",
  .noat "Desk" "columns",
  .noat "Desk" "lines",
  .mkr "Desk",
  .noat "Refused" "number",
  .exm "Refused" "Refused" true,
  .keep "Refused"]
def hfa : List He.Fa := hfa0 ++ hfa1 ++ hfa2 ++ hfa3 ++ hfa4
def hfn0 : List He.DefD := [⟨("shown", none), "shown", "shown", defArgs (top 1), defBody (top 1), defScope (top 1), [], []⟩,
  ⟨("signed", none), "signed", "signed", defArgs (top 2), defBody (top 2), defScope (top 2), [], []⟩,
  ⟨("turned", none), "turned", "turned", defArgs (top 3), defBody (top 3), defScope (top 3), [], []⟩,
  ⟨("turned_back", none), "turned_back", "turned_back", defArgs (top 4), defBody (top 4), defScope (top 4), [], []⟩,
  ⟨("half_turned", none), "half_turned", "half_turned", defArgs (top 5), defBody (top 5), defScope (top 5), [], []⟩,
  ⟨("staggered", none), "staggered", "staggered", defArgs (top 6), defBody (top 6), defScope (top 6), [], []⟩,
  ⟨("printed", none), "printed", "printed", defArgs (top 7), defBody (top 7), defScope (top 7), [], []⟩,
  ⟨("differences", none), "differences", "differences", defArgs (top 10), defBody (top 10), defScope (top 10), [], []⟩,
  ⟨("is_below", none), "is_below", "is_below", defArgs (top 11), defBody (top 11), defScope (top 11), [], []⟩,
  ⟨("start_of", none), "start_of", "start_of", defArgs (top 12), defBody (top 12), defScope (top 12), [], []⟩,
  ⟨("degree_of", none), "degree_of", "degree_of", defArgs (top 13), defBody (top 13), defScope (top 13), [], []⟩,
  ⟨("value_by", none), "value_by", "value_by", defArgs (top 14), defBody (top 14), defScope (top 14), [], []⟩,
  ⟨("choices", none), "choices", "choices", defArgs (top 15), defBody (top 15), defScope (top 15), [], []⟩,
  ⟨("slip_at", none), "slip_at", "slip_at", defArgs (top 16), defBody (top 16), defScope (top 16), [], []⟩,
  ⟨("clerk", none), "clerk", "clerk", defArgs (top 17), defBody (top 17), defScope (top 17), [], []⟩,
  ⟨("borne", none), "borne", "borne", defArgs (top 18), defBody (top 18), defScope (top 18), [], []⟩,
  ⟨("product_at", none), "product_at", "product_at", defArgs (top 19), defBody (top 19), defScope (top 19), [], []⟩,
  ⟨("halfway", none), "halfway", "halfway", defArgs (top 20), defBody (top 20), defScope (top 20), [], []⟩,
  ⟨("common", none), "common", "common", defArgs (top 22), defBody (top 22), defScope (top 22), [], []⟩,
  ⟨("lowest", none), "lowest", "lowest", defArgs (top 23), defBody (top 23), defScope (top 23), [], []⟩]
def hfn1 : List He.DefD := [⟨("value_through", none), "value_through", "value_through", defArgs (top 24), defBody (top 24), defScope (top 24), [], []⟩,
  ⟨("sums", none), "sums", "sums", defArgs (top 25), defBody (top 25), defScope (top 25), [], []⟩,
  ⟨("pivot_row", none), "pivot_row", "pivot_row", defArgs (top 26), defBody (top 26), defScope (top 26), [], []⟩,
  ⟨("cleared", none), "cleared", "cleared", defArgs (top 27), defBody (top 27), defScope (top 27), [], []⟩,
  ⟨("reduced", none), "reduced", "reduced", defArgs (top 28), defBody (top 28), defScope (top 28), [], []⟩,
  ⟨("solved", none), "solved", "solved", defArgs (top 29), defBody (top 29), defScope (top 29), [], []⟩,
  ⟨("worth", none), "worth", "worth", defArgs (top 30), defBody (top 30), defScope (top 30), [], []⟩,
  ⟨("located", none), "located", "located", defArgs (top 31), defBody (top 31), defScope (top 31), [], []⟩,
  ⟨("is_through", none), "is_through", "is_through", defArgs (top 32), defBody (top 32), defScope (top 32), [], []⟩,
  ⟨("mended", none), "mended", "mended", defArgs (top 33), defBody (top 33), defScope (top 33), [], []⟩,
  ⟨("ask", none), "ask", "ask", defArgs (top 44), defBody (top 44), defScope (top 44), [], []⟩,
  ⟨("size_of", none), "size_of", "size_of", defArgs (top 46), defBody (top 46), defScope (top 46), [], []⟩,
  ⟨("told", none), "told", "told", defArgs (top 47), defBody (top 47), defScope (top 47), [], []⟩,
  ⟨("ask_within", none), "ask_within", "ask_within", defArgs (top 48), defBody (top 48), defScope (top 48), [], []⟩,
  ⟨("ask_numbers", none), "ask_numbers", "ask_numbers", defArgs (top 49), defBody (top 49), defScope (top 49), [], []⟩,
  ⟨("ask_start", none), "ask_start", "ask_start", defArgs (top 50), defBody (top 50), defScope (top 50), [], []⟩,
  ⟨("ask_k", none), "ask_k", "ask_k", defArgs (top 51), defBody (top 51), defScope (top 51), [], []⟩,
  ⟨("ask_columns", none), "ask_columns", "ask_columns", defArgs (top 52), defBody (top 52), defScope (top 52), [], []⟩,
  ⟨("wheels", none), "wheels", "wheels", defArgs (top 53), defBody (top 53), defScope (top 53), [], []⟩,
  ⟨("shown_all", none), "shown_all", "shown_all", defArgs (top 54), defBody (top 54), defScope (top 54), [], []⟩]
def hfn2 : List He.DefD := [⟨("set_columns", none), "set_columns", "set_columns", defArgs (top 55), defBody (top 55), defScope (top 55), [], []⟩,
  ⟨("columns_told", none), "columns_told", "columns_told", defArgs (top 56), defBody (top 56), defScope (top 56), [], []⟩,
  ⟨("crank", none), "crank", "crank", defArgs (top 57), defBody (top 57), defScope (top 57), [], []⟩,
  ⟨("back", none), "back", "back", defArgs (top 58), defBody (top 58), defScope (top 58), [], []⟩,
  ⟨("half", none), "half", "half", defArgs (top 59), defBody (top 59), defScope (top 59), [], []⟩,
  ⟨("skip", none), "skip", "skip", defArgs (top 60), defBody (top 60), defScope (top 60), [], []⟩,
  ⟨("sheet", none), "sheet", "sheet", defArgs (top 61), defBody (top 61), defScope (top 61), [], []⟩,
  ⟨("change", none), "change", "change", defArgs (top 62), defBody (top 62), defScope (top 62), [], []⟩,
  ⟨("differences_told", none), "differences_told", "differences_told", defArgs (top 63), defBody (top 63), defScope (top 63), [], []⟩,
  ⟨("start_told", none), "start_told", "start_told", defArgs (top 64), defBody (top 64), defScope (top 64), [], []⟩,
  ⟨("value", none), "value", "value", defArgs (top 65), defBody (top 65), defScope (top 65), [], []⟩,
  ⟨("clean", none), "clean", "clean", defArgs (top 66), defBody (top 66), defScope (top 66), [], []⟩,
  ⟨("clerk_told", none), "clerk_told", "clerk_told", defArgs (top 67), defBody (top 67), defScope (top 67), [], []⟩,
  ⟨("mend", none), "mend", "mend", defArgs (top 68), defBody (top 68), defScope (top 68), [], []⟩,
  ⟨("bears", none), "bears", "bears", defArgs (top 69), defBody (top 69), defScope (top 69), [], []⟩,
  ⟨("are_lines", none), "are_lines", "are_lines", defArgs (top 70), defBody (top 70), defScope (top 70), [], []⟩,
  ⟨("rival", none), "rival", "rival", defArgs (top 71), defBody (top 71), defScope (top 71), [], []⟩,
  ⟨("halfway_told", none), "halfway_told", "halfway_told", defArgs (top 72), defBody (top 72), defScope (top 72), [], []⟩,
  ⟨("first_unlike", none), "first_unlike", "first_unlike", defArgs (top 73), defBody (top 73), defScope (top 73), [], []⟩,
  ⟨("explain", none), "explain", "explain", defArgs (top 74), defBody (top 74), defScope (top 74), [], []⟩]
def hfn3 : List He.DefD := [⟨("stagger", none), "stagger", "stagger", defArgs (top 75), defBody (top 75), defScope (top 75), [], []⟩,
  ⟨("takes", none), "takes", "takes", defArgs (top 76), defBody (top 76), defScope (top 76), [], []⟩,
  ⟨("clear", none), "clear", "clear", defArgs (top 77), defBody (top 77), defScope (top 77), [], []⟩,
  ⟨("of_engine", none), "of_engine", "of_engine", defArgs (top 78), defBody (top 78), defScope (top 78), [], []⟩,
  ⟨("of_sheet", none), "of_sheet", "of_sheet", defArgs (top 79), defBody (top 79), defScope (top 79), [], []⟩,
  ⟨("of_slips", none), "of_slips", "of_slips", defArgs (top 80), defBody (top 80), defScope (top 80), [], []⟩,
  ⟨("answer", none), "answer", "answer", defArgs (top 81), defBody (top 81), defScope (top 81), [], []⟩,
  ⟨("answers", none), "answers", "answers", defArgs (top 85), defBody (top 85), defScope (top 85), [], []⟩,
  ⟨("Refused", some "__init__"), "__init__", "Refused.__init__", defArgs s_rinit, defBody s_rinit, defScope s_rinit, [], []⟩,
  ⟨("Desk", some "__init__"), "__init__", "Desk.__init__", defArgs s_dinit, defBody s_dinit, defScope s_dinit, [], []⟩]
def hfn : List He.DefD := hfn0 ++ hfn1 ++ hfn2 ++ hfn3
/-- what else is asked of the written part -/
def moreB (K : PySem.W.Frag) : Bool :=
  oexB K (He.ga K "Refused") && (xfB K (He.ga K "Refused") && (He.tupB K "NUMBERS" (NUMS.map He.Dv.int) && (He.tupB K "WITH_LIST" (WLS.map He.Dv.int) && (He.eqO (PySem.W.findIn K (.ref (He.ga K "Refused")) "__init__") (some (some (.ref (He.ma K (He.ga K "Refused") "__init__")))) && decide (PySem.W.typeIn K (.ref (He.ma K (He.ga K "Refused") "__init__")) = some (.type "function"))))))
def headB (K : PySem.W.Frag) : Bool × List He.FnW := ((hfa.all fun f => f.ok K) && (hfn.all fun d => d.ok K) && moreB K, hfn.map fun d => He.fnW K d.at_)
def headV : Bool × List He.FnW := (true, hfn.map He.DefD.val)
theorem head_says {K : PySem.W.Frag} (c : headB K = headV) : He.SaysD hfa hfn K ∧ moreB K = true := by
  have h1 := congrArg (fun z : Bool × List He.FnW => z.1) c
  have h2 := congrArg (fun z : Bool × List He.FnW => z.2) c
  have h1 : ((hfa.all fun f => f.ok K) && (hfn.all fun d => d.ok K) && moreB K) = true := h1
  obtain ⟨h3, h4⟩ := He.ba h1
  refine ⟨?_, h4⟩
  show (_, _) = (_, _)
  rw [h3]
  exact congrArg _ h2
theorem fun_of {K : PySem.W.Frag} {x q : Str} {st : Stmt} {f : Addr} {fd : FuncData} (F : FunD K x q (defArgs st) (defBody st) (defScope st) [] [] f fd) : L2.Fun K x q st f fd := by
  obtain ⟨oc, od, dV, kV, doc, pm, an, cdv, ct, osl, e, lk, hcd, hd, hk⟩ := F.ex
  rcases hd with ⟨_, rfl⟩ | ⟨z, _⟩
  · exact ⟨⟨oc, od, kV, doc, pm, an, cdv, ct, osl, e, lk, hcd⟩, F.kp⟩
  · exact absurd rfl z
section
variable {K : PySem.W.Frag} {h : Heap} {mg : Str → Option Value}
theorem def_of (X : K.In h) (G : h.Ns mainGlobals mg) (c : He.SaysD hfa hfn K) (i j : Nat) {x : Str} {st : Stmt} (hi : hfa[i]? = some (.glo x)) (hj : hfn[j]? = some ⟨(x, none), x, x, defArgs st, defBody st, defScope st, [], []⟩) : DefAt K mg x st := by
  obtain ⟨fd, F⟩ := c.def_ j hj
  exact ⟨_, fd, fun_of F, He.glo_ok X G (c.fact i hi)⟩
theorem tx_of (X : K.In h) (G : h.Ns mainGlobals mg) (c : headB K = headV) : Tx K mg (He.ga K "Desk") (He.ga K "Refused") ∧ TxA K mg := by
  obtain ⟨c, m⟩ := head_says c
  obtain ⟨m1, m⟩ := He.ba m
  obtain ⟨m2, m⟩ := He.ba m
  obtain ⟨m3, m⟩ := He.ba m
  obtain ⟨m4, m⟩ := He.ba m
  obtain ⟨m5, m6⟩ := He.ba m
  refine ⟨{
    b_abs := He.free_ok X G (c.fact 0 rfl)
    b_enumerate := He.free_ok X G (c.fact 1 rfl)
    b_int := He.free_ok X G (c.fact 2 rfl)
    b_len := He.free_ok X G (c.fact 3 rfl)
    b_list := He.free_ok X G (c.fact 4 rfl)
    b_max := He.free_ok X G (c.fact 5 rfl)
    b_min := He.free_ok X G (c.fact 6 rfl)
    b_range := He.free_ok X G (c.fact 7 rfl)
    b_reversed := He.free_ok X G (c.fact 8 rfl)
    b_sum := He.free_ok X G (c.fact 9 rfl)
    b_zip := He.free_ok X G (c.fact 10 rfl)
    g_MOST_BORNE := He.int_ok X G (c.fact 11 rfl)
    g_FIRST_WHEELS := He.int_ok X G (c.fact 12 rfl)
    g_MOST_WHEELS := He.int_ok X G (c.fact 13 rfl)
    g_MOST_COLUMNS := He.int_ok X G (c.fact 14 rfl)
    g_MOST_LINES := He.int_ok X G (c.fact 15 rfl)
    g_MOST_DIFFERENCE := He.int_ok X G (c.fact 16 rfl)
    g_MOST_RIVAL := He.int_ok X G (c.fact 17 rfl)
    g_MOST_X := He.int_ok X G (c.fact 18 rfl)
    g_MOST_NUMBER := He.int_ok X G (c.fact 19 rfl)
    d_shown := def_of X G c 20 0 rfl rfl
    d_signed := def_of X G c 21 1 rfl rfl
    d_turned := def_of X G c 22 2 rfl rfl
    d_turned_back := def_of X G c 23 3 rfl rfl
    d_half_turned := def_of X G c 24 4 rfl rfl
    d_staggered := def_of X G c 25 5 rfl rfl
    d_printed := def_of X G c 26 6 rfl rfl
    d_differences := def_of X G c 27 7 rfl rfl
    d_is_below := def_of X G c 28 8 rfl rfl
    d_start_of := def_of X G c 29 9 rfl rfl
    d_degree_of := def_of X G c 30 10 rfl rfl
    d_value_by := def_of X G c 31 11 rfl rfl
    d_choices := def_of X G c 32 12 rfl rfl
    d_slip_at := def_of X G c 33 13 rfl rfl
    d_clerk := def_of X G c 34 14 rfl rfl
    d_borne := def_of X G c 35 15 rfl rfl
    d_product_at := def_of X G c 36 16 rfl rfl
    d_halfway := def_of X G c 37 17 rfl rfl
    d_common := def_of X G c 38 18 rfl rfl
    d_lowest := def_of X G c 39 19 rfl rfl
    d_value_through := def_of X G c 40 20 rfl rfl
    d_sums := def_of X G c 41 21 rfl rfl
    d_pivot_row := def_of X G c 42 22 rfl rfl
    d_cleared := def_of X G c 43 23 rfl rfl
    d_reduced := def_of X G c 44 24 rfl rfl
    d_solved := def_of X G c 45 25 rfl rfl
    d_worth := def_of X G c 46 26 rfl rfl
    d_located := def_of X G c 47 27 rfl rfl
    d_is_through := def_of X G c 48 28 rfl rfl
    d_mended := def_of X G c 49 29 rfl rfl
    d_ask := def_of X G c 50 30 rfl rfl
    d_size_of := def_of X G c 51 31 rfl rfl
    d_told := def_of X G c 52 32 rfl rfl
    d_ask_within := def_of X G c 53 33 rfl rfl
    d_ask_numbers := def_of X G c 54 34 rfl rfl
    d_ask_start := def_of X G c 55 35 rfl rfl
    d_ask_k := def_of X G c 56 36 rfl rfl
    d_ask_columns := def_of X G c 57 37 rfl rfl
    d_wheels := def_of X G c 58 38 rfl rfl
    d_shown_all := def_of X G c 59 39 rfl rfl
    d_set_columns := def_of X G c 60 40 rfl rfl
    d_columns_told := def_of X G c 61 41 rfl rfl
    d_crank := def_of X G c 62 42 rfl rfl
    d_back := def_of X G c 63 43 rfl rfl
    d_half := def_of X G c 64 44 rfl rfl
    d_skip := def_of X G c 65 45 rfl rfl
    d_sheet := def_of X G c 66 46 rfl rfl
    d_change := def_of X G c 67 47 rfl rfl
    d_differences_told := def_of X G c 68 48 rfl rfl
    d_start_told := def_of X G c 69 49 rfl rfl
    d_value := def_of X G c 70 50 rfl rfl
    d_clean := def_of X G c 71 51 rfl rfl
    d_clerk_told := def_of X G c 72 52 rfl rfl
    d_mend := def_of X G c 73 53 rfl rfl
    d_bears := def_of X G c 74 54 rfl rfl
    d_are_lines := def_of X G c 75 55 rfl rfl
    d_rival := def_of X G c 76 56 rfl rfl
    d_halfway_told := def_of X G c 77 57 rfl rfl
    d_first_unlike := def_of X G c 78 58 rfl rfl
    d_explain := def_of X G c 79 59 rfl rfl
    d_stagger := def_of X G c 80 60 rfl rfl
    d_takes := def_of X G c 81 61 rfl rfl
    d_clear := def_of X G c 82 62 rfl rfl
    d_of_engine := def_of X G c 83 63 rfl rfl
    d_of_sheet := def_of X G c 84 64 rfl rfl
    d_of_slips := def_of X G c 85 65 rfl rfl
    d_answer := def_of X G c 86 66 rfl rfl
    cl := He.cls_ok (c.fact 92 rfl)
    n_size := He.noat_ok (c.fact 93 rfl)
    n_columns := He.noat_ok (c.fact 94 rfl)
    n_lines := He.noat_ok (c.fact 95 rfl)
    ref := { g := He.glo_ok X G (c.fact 89 rfl), oex := oexB_ok m1, xf := xfB_ok m2, nN := He.noat_ok (c.fact 97 rfl), te := He.exm_ok (c.fact 98 rfl), init := (c.def_ 68 rfl).elim fun fd F => ⟨_, fd, He.eqO_ok m5, of_decide_eq_true m6, fun_of F⟩ }
    dsk := { g := He.glo_ok X G (c.fact 88 rfl), init := (c.def_ 69 rfl).elim fun fd F => ⟨_, fd, He.mkr_ok (c.fact 96 rfl), fun_of F⟩ } }, { num := ⟨_, He.glo_ok X G (c.fact 90 rfl), fun H => ?_⟩, wl := ⟨_, He.glo_ok X G (c.fact 91 rfl), fun H => ?_⟩ }⟩
  · have := He.tupB_ok m3 H
    rw [List.map_map] at this
    exact this
  · have := He.tupB_ok m4 H
    rw [List.map_map] at this
    exact this
theorem all_mk {P : Program} {w : World} {fa : Addr} (law : CallLaw) (X : K.In h) (G : h.Ns mainGlobals mg) (hfa : mg "answers" = some (.ref fa)) (c : headB K = headV) :
    ∃ fd : FuncData, (∀ (s : Shared) (us : List Value), us.length = (["calls"] : List Str).length → BindsTo s fd ⟨us, []⟩ ((["calls"] : List Str).zip us)) ∧ ∀ base : Heap, K.In base → base.Ns mainGlobals mg → FnOk P w K mg base CX0 11 fa fd ["calls"] (spAns K) := by
  obtain ⟨T, TA⟩ := tx_of X G c
  obtain ⟨c, _⟩ := head_says c
  obtain ⟨fd, F⟩ := c.def_ (d := ⟨("answers", none), "answers", "answers", defArgs (top 85), defBody (top 85), defScope (top 85), [], []⟩) 67 rfl
  have e := hfa.symm.trans (He.glo_ok X G (c.fact (f := .glo "answers") 87 rfl))
  cases e
  have b := FunD.bindsA (ps := ["calls"]) F fun _ _ _ _ _ _ us hl => match us, hl with | [_], _ => rfl
  exact ⟨fd, fun s us hu => b s us hu, fun base _ _ => ok_answers law (fun_of F) T TA⟩
end
end CE
namespace CE
open PySem PySem.Spec PyProof.Rows L2
theorem whole_is (c : List (List Int)) : PyVbcead.whole c = c := by
  unfold PyVbcead.whole
  split <;> rfl
theorem asked1_len {c : List (List Int)} (h : VbceadNeutral.asked1 c = true) : ∀ r ∈ c.tail, r.length ≤ 60 := by
  unfold VbceadNeutral.asked1 at h
  split at h <;> intro r hr
  all_goals first
    | (exact absurd hr List.not_mem_nil)
    | (obtain rfl := List.mem_singleton.mp hr
       exact of_decide_eq_true (Bool.and_eq_true_iff.mp h).2)
    | (have h2 := List.all_eq_true.mp (Bool.and_eq_true_iff.mp h).2 r (List.mem_of_mem_tail hr)
       exact of_decide_eq_true (Bool.and_eq_true_iff.mp h2).1)
theorem asked_of {l : List Int} (h : PyVbcead.answers_asked l = true) : ∃ raw, PyFlat.calls PyVbcead.shape l.length l = some raw ∧ (∀ c ∈ raw, ∀ r ∈ c.tail, r.length ≤ 60) ∧ (told_all raw Vbcead.start).length ≤ 10000000 ∧ PyVbcead.answers l = told_all raw Vbcead.start := by
  unfold PyVbcead.answers_asked at h
  cases e : PyFlat.calls PyVbcead.shape l.length l with
  | none => rw [e] at h; cases h
  | some raw =>
    rw [e] at h
    obtain ⟨h, h5⟩ := Bool.and_eq_true_iff.mp h
    obtain ⟨h, h4⟩ := Bool.and_eq_true_iff.mp h
    have ea : PyVbcead.answers l = told_all raw Vbcead.start := by
      unfold PyVbcead.answers PyVbcead.calls
      rw [e]
      rfl
    refine ⟨raw, rfl, fun c hc => ?_, ?_, ea⟩
    · obtain ⟨h4, _⟩ := Bool.and_eq_true_iff.mp h4
      have := List.all_eq_true.mp h4 (PyVbcead.whole c) (List.mem_map.mpr ⟨c, hc, rfl⟩)
      rw [whole_is] at this
      exact asked1_len this
    · rw [← ea]
      exact of_decide_eq_true h5
end CE
namespace CE
theorem ans_of {m : Dk} {r r' : Res} {x : Vbcead.State × List Int} (h : r = r') (a : Ans m r' x) : Ans m r x := h ▸ a
theorem len0 {α : Type} {l : List α} (h : l.length = 0) : l = [] := List.length_eq_zero_iff.mp h
theorem len1 {α : Type} {l : List α} (h : l.length = 1) : ∃ a, l = [a] := List.length_eq_one_iff.mp h
theorem len2 {α : Type} {l : List α} (h : l.length = 2) : ∃ a b, l = [a, b] := match l, h with | [a, b], _ => ⟨a, b, rfl⟩
theorem shape_lens {p : Int} {a b n k : Nat} (h : PyVbcead.shape p = some (n, k)) (e : PyVbcead.shape p = some (a, b)) : n = a ∧ k = b := by
  rw [h] at e
  cases e
  exact ⟨rfl, rfl⟩
/-- every call's answer is the specification's -/
theorem call_law : CallLaw := by
  intro s m sort ns rows rep good hsh h60
  obtain ⟨h0, h1⟩ := shape_in hsh
  rw [whole_is]
  show Ans m (askF m sort ns (rows.headD [])) (Vbcead.step s ((sort :: ns) :: rows))
  have hs : sort = 0 ∨ sort = 1 ∨ sort = 2 ∨ sort = 3 ∨ sort = 4 ∨ sort = 5 ∨ sort = 6 ∨ sort = 7 ∨ sort = 8 ∨ sort = 9 ∨ sort = 10 ∨ sort = 11 ∨ sort = 12 ∨ sort = 13 ∨ sort = 14 ∨ sort = 15 ∨ sort = 16 ∨ sort = 17 ∨ sort = 18 ∨ sort = 19 ∨ sort = 20 ∨ sort = 21 ∨ sort = 22 ∨ sort = 23 := by omega
  rcases hs with rfl | rfl | rfl | rfl | rfl | rfl | rfl | rfl | rfl | rfl | rfl | rfl | rfl | rfl | rfl | rfl | rfl | rfl | rfl | rfl | rfl | rfl | rfl | rfl
  · obtain ⟨hn, hk⟩ := shape_lens hsh (show PyVbcead.shape 0 = some (1, 0) from rfl)
    obtain ⟨a, rfl⟩ := len1 hn
    obtain rfl := len0 hk
    exact ans_of rfl (law_wheels rep good a)
  · obtain ⟨hn, hk⟩ := shape_lens hsh (show PyVbcead.shape 1 = some (0, 1) from rfl)
    obtain rfl := len0 hn
    obtain ⟨r, rfl⟩ := len1 hk
    exact ans_of rfl (law_set rep good r)
  · obtain ⟨hn, hk⟩ := shape_lens hsh (show PyVbcead.shape 2 = some (0, 0) from rfl)
    obtain rfl := len0 hn
    obtain rfl := len0 hk
    exact ans_of rfl (law_columns rep good)
  · obtain ⟨hn, hk⟩ := shape_lens hsh (show PyVbcead.shape 3 = some (1, 0) from rfl)
    obtain ⟨a, rfl⟩ := len1 hn
    obtain rfl := len0 hk
    exact ans_of rfl (law_crank rep good a)
  · obtain ⟨hn, hk⟩ := shape_lens hsh (show PyVbcead.shape 4 = some (1, 0) from rfl)
    obtain ⟨a, rfl⟩ := len1 hn
    obtain rfl := len0 hk
    exact ans_of rfl (law_back rep good a)
  · obtain ⟨hn, hk⟩ := shape_lens hsh (show PyVbcead.shape 5 = some (2, 0) from rfl)
    obtain ⟨a, b, rfl⟩ := len2 hn
    obtain rfl := len0 hk
    exact ans_of rfl (law_half rep good a b)
  · obtain ⟨hn, hk⟩ := shape_lens hsh (show PyVbcead.shape 6 = some (1, 0) from rfl)
    obtain ⟨a, rfl⟩ := len1 hn
    obtain rfl := len0 hk
    exact ans_of rfl (law_skip rep good a)
  · obtain ⟨hn, hk⟩ := shape_lens hsh (show PyVbcead.shape 7 = some (0, 1) from rfl)
    obtain rfl := len0 hn
    obtain ⟨r, rfl⟩ := len1 hk
    exact ans_of rfl (law_sheet rep good r)
  · obtain ⟨hn, hk⟩ := shape_lens hsh (show PyVbcead.shape 8 = some (0, 0) from rfl)
    obtain rfl := len0 hn
    obtain rfl := len0 hk
    exact ans_of rfl (law_lines rep good)
  · obtain ⟨hn, hk⟩ := shape_lens hsh (show PyVbcead.shape 9 = some (2, 0) from rfl)
    obtain ⟨a, b, rfl⟩ := len2 hn
    obtain rfl := len0 hk
    exact ans_of rfl (law_change rep good a b)
  · obtain ⟨hn, hk⟩ := shape_lens hsh (show PyVbcead.shape 10 = some (1, 0) from rfl)
    obtain ⟨a, rfl⟩ := len1 hn
    obtain rfl := len0 hk
    exact ans_of rfl (law_differences rep good a)
  · obtain ⟨hn, hk⟩ := shape_lens hsh (show PyVbcead.shape 11 = some (1, 0) from rfl)
    obtain ⟨a, rfl⟩ := len1 hn
    obtain rfl := len0 hk
    exact ans_of rfl (law_start rep good a)
  · obtain ⟨hn, hk⟩ := shape_lens hsh (show PyVbcead.shape 12 = some (0, 0) from rfl)
    obtain rfl := len0 hn
    obtain rfl := len0 hk
    exact ans_of rfl (law_degree rep good)
  · obtain ⟨hn, hk⟩ := shape_lens hsh (show PyVbcead.shape 13 = some (2, 0) from rfl)
    obtain ⟨a, b, rfl⟩ := len2 hn
    obtain rfl := len0 hk
    exact ans_of rfl (law_value rep good a b)
  · obtain ⟨hn, hk⟩ := shape_lens hsh (show PyVbcead.shape 14 = some (1, 0) from rfl)
    obtain ⟨a, rfl⟩ := len1 hn
    obtain rfl := len0 hk
    exact ans_of rfl (law_clean rep good a)
  · obtain ⟨hn, hk⟩ := shape_lens hsh (show PyVbcead.shape 15 = some (1, 0) from rfl)
    obtain ⟨a, rfl⟩ := len1 hn
    obtain rfl := len0 hk
    exact ans_of rfl (law_clerk rep good a)
  · obtain ⟨hn, hk⟩ := shape_lens hsh (show PyVbcead.shape 16 = some (1, 0) from rfl)
    obtain ⟨a, rfl⟩ := len1 hn
    obtain rfl := len0 hk
    exact ans_of rfl (law_mend rep good a)
  · obtain ⟨hn, hk⟩ := shape_lens hsh (show PyVbcead.shape 17 = some (1, 0) from rfl)
    obtain ⟨a, rfl⟩ := len1 hn
    obtain rfl := len0 hk
    exact ans_of rfl (law_bears rep good a)
  · obtain ⟨hn, hk⟩ := shape_lens hsh (show PyVbcead.shape 18 = some (0, 1) from rfl)
    obtain rfl := len0 hn
    obtain ⟨r, rfl⟩ := len1 hk
    exact ans_of rfl (law_rival rep good r)
  · obtain ⟨hn, hk⟩ := shape_lens hsh (show PyVbcead.shape 19 = some (1, 0) from rfl)
    obtain ⟨a, rfl⟩ := len1 hn
    obtain rfl := len0 hk
    exact ans_of rfl (law_halfway rep good a)
  · obtain ⟨hn, hk⟩ := shape_lens hsh (show PyVbcead.shape 20 = some (0, 1) from rfl)
    obtain rfl := len0 hn
    obtain ⟨r, rfl⟩ := len1 hk
    exact ans_of rfl (law_explain rep good r)
  · obtain ⟨hn, hk⟩ := shape_lens hsh (show PyVbcead.shape 21 = some (0, 0) from rfl)
    obtain rfl := len0 hn
    obtain rfl := len0 hk
    exact ans_of rfl (law_stagger rep good)
  · obtain ⟨hn, hk⟩ := shape_lens hsh (show PyVbcead.shape 22 = some (0, 1) from rfl)
    obtain rfl := len0 hn
    obtain ⟨r, rfl⟩ := len1 hk
    exact ans_of rfl (law_takes rep good r)
  · obtain ⟨hn, hk⟩ := shape_lens hsh (show PyVbcead.shape 23 = some (0, 0) from rfl)
    obtain rfl := len0 hn
    obtain rfl := len0 hk
    exact ans_of rfl (law_clear rep good)
end CE
open PySem PySem.W PyProof.Rows
set_option maxRecDepth 100000 in
set_option maxHeartbeats 8000000 in
theorem PySem.Challenge.cw_columnengine_s01_answers_holds : PySem.Challenge.rw_columnengine_s01_answers.Holds := by
  w_on; k_headS; (case hw => exact ⟨[.list [.int 2]], by decide +kernel, by decide +kernel⟩)
  k_fillS
  refine L2.walk_specK (r := PySem.Challenge.rw_columnengine_s01_answers) (k := 11) (CX := L2.CX0) (ps := ["calls"]) (sp := CE.spAns) (by decide +kernel) rfl rfl ⟨rfl, by decide, by decide⟩ (fun w h Y => PySem.W.kIn_of Y) ?F ?S (fun _ _ _ _ z => z)
  case F =>
    intro w mg fa h Y KX G hmg
    exact CE.all_mk CE.call_law KX G hmg (by kernel_rfl)
  case S =>
    intro K H xs a hO hwi hask hx
    cases hx with
    | cons h1 h2 =>
      cases h2
      cases h1 with
      | lst hs ha =>
        have e := L2.ints_dw a.1 _ ha
        subst e
        obtain ⟨raw, hr, h60, hT, hA⟩ := CE.asked_of (l := a.1) hask
        refine ⟨_, a.1, raw, rfl, hs, hr, h60, hT, fun H' p hp => ?_⟩
        rw [← hA] at hp
        exact .lst (L2.SqL.of hp) (L2.dw_ints _)
