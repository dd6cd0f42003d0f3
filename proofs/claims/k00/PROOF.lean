import PyProof.Rows.All
import Wide.All
import OpenK.AllK
import Wide.FinOn
import HandS.ForMost
import HandS.Walk
import HandS.IsInst
import HandS.Evl
import PyProof.StrBlock2
import HandS.More
import PyProof.DictTruth
import HandS.EndBits
import PySem.Challenge.RW_everyproduct_k00_words_of_plain_texts
set_option Elab.async false
set_option linter.all false
set_option maxRecDepth 100000
set_option maxHeartbeats 4000000
/-! G: a layer over HandS: typed data in a frozen part of the heap, owned lists, evaluation by plain functions. -/
namespace G
open PySem PySem.Spec PyProof.Rows L2

abbrev FR := PySem.W.Frag
/-! ### typed data -/
class Enc (α : Type) where
  rep : FR → Hp → V → α → Prop
  mono : ∀ {K : FR} {F F' : Hp} {v : V} {x : α}, Same F F' → rep K F v x → rep K F' v x
abbrev rep {α : Type} [Enc α] (K : FR) (F : Hp) (v : V) (x : α) : Prop := Enc.rep K F v x
theorem mono {α : Type} [Enc α] {K : FR} {F F' : Hp} {v : V} {x : α} (e : Same F F') (h : rep K F v x) : rep K F' v x := Enc.mono e h
def LN : Nat := 1000000
theorem ln_size {n : Nat} (h : n ≤ LN) : n ≤ sizeLine := Nat.le_trans h (by decide)
theorem ln_lt {n : Nat} (h : n < LN) : n < sizeLine := Nat.lt_of_lt_of_le h (by decide)
abbrev Tx := List Nat
def tx (s : Tx) : V := .str ⟨⟨s⟩⟩
/-- an address, as data -/
structure Lc where
  l : Addr
/-- a tuple of any length, all of one type -/
structure Tp (α : Type) where
  l : List α
/-- the script: ints, read only -/
structure Scr where
  l : List Int
instance encInt : Enc Int := ⟨fun _ _ v x => v = .int x, fun _ h => h⟩
instance encBool : Enc Bool := ⟨fun _ _ v x => v = .bl x, fun _ h => h⟩
instance encUnit : Enc Unit := ⟨fun _ _ v _ => v = .non, fun _ h => h⟩
instance encLc : Enc Lc := ⟨fun _ _ v x => v = .ref x.l, fun _ h => h⟩
/-- a text that can be: not too long, its signs code points -/
def TxOk (x : Tx) : Prop := x.length ≤ LN ∧ x.all (fun c => decide (c < 0x110000)) = true
instance (x : Tx) : Decidable (TxOk x) := by unfold TxOk; infer_instance
theorem TxOk.lt {x : Tx} (h : TxOk x) : ∀ c ∈ x, c < 0x110000 := fun c hc => of_decide_eq_true (List.all_eq_true.mp h.2 c hc)
theorem TxOk.mk' {x : Tx} (h : x.length ≤ LN) (h2 : ∀ c ∈ x, c < 0x110000) : TxOk x := ⟨h, List.all_eq_true.mpr fun c hc => decide_eq_true (h2 c hc)⟩
instance encTx : Enc (List Nat) := ⟨fun _ _ v x => v = tx x ∧ TxOk x, fun _ h => h⟩
theorem pmono {α : Type} [Enc α] {K : FR} {F F' : Hp} (e : Same F F') : ∀ {ys : List V} {xs : List α}, Paired (rep K F) ys xs → Paired (rep K F') ys xs
  | _, _, .nil => .nil
  | _, _, .cons h t => .cons (mono e h) (pmono e t)
theorem same_t {K : FR} {H H' : Hp} {a : Addr} {xs : List V} (e : Same H H') (h : SqT K H a xs) : SqT K H' a xs := by
  rcases h with (h | ⟨o, h⟩) | h
  · exact .inl (.inl (e _ _ h))
  · exact .inl (.inr ⟨o, e _ _ h⟩)
  · exact .inr h
instance encList {α : Type} [Enc α] : Enc (List α) := ⟨fun K F v xs => ∃ a ys, v = .ref a ∧ F a = some (.lst ys) ∧ Paired (rep K F) ys xs,
  fun e ⟨a, ys, h1, h2, h3⟩ => ⟨a, ys, h1, e _ _ h2, pmono e h3⟩⟩
instance encTp {α : Type} [Enc α] : Enc (Tp α) := ⟨fun K F v xs => ∃ a ys, v = .ref a ∧ SqT K F a ys ∧ Paired (rep K F) ys xs.l,
  fun e ⟨a, ys, h1, h2, h3⟩ => ⟨a, ys, h1, same_t e h2, pmono e h3⟩⟩
instance encPair {α β : Type} [Enc α] [Enc β] : Enc (α × β) := ⟨fun K F v x => ∃ a v1 v2, v = .ref a ∧ SqT K F a [v1, v2] ∧ rep K F v1 x.1 ∧ rep K F v2 x.2,
  fun e ⟨a, v1, v2, h1, h2, h3, h4⟩ => ⟨a, v1, v2, h1, same_t e h2, mono e h3, mono e h4⟩⟩
instance encScr : Enc Scr := ⟨fun K F v x => ∃ a, v = .ref a ∧ SqL K F a (x.l.map V.int), fun e ⟨a, h1, h2⟩ => ⟨a, h1, e.seq h2⟩⟩
/-- argument lists -/
class EncA (α : Type) where
  repA : FR → Hp → List V → α → Prop
  monoA : ∀ {K : FR} {F F' : Hp} {vs : List V} {x : α}, Same F F' → repA K F vs x → repA K F' vs x
abbrev repA {α : Type} [EncA α] (K : FR) (F : Hp) (vs : List V) (x : α) : Prop := EncA.repA K F vs x
instance encA0 : EncA Unit := ⟨fun _ _ vs _ => vs = [], fun _ h => h⟩
instance encA1 {α β : Type} [Enc α] [EncA β] : EncA (α × β) := ⟨fun K F vs x => ∃ v r, vs = v :: r ∧ rep K F v x.1 ∧ repA K F r x.2, fun e ⟨v, r, h1, h2, h3⟩ => ⟨v, r, h1, mono e h2, EncA.monoA e h3⟩⟩

/-! ### owned objects -/
structure OD where
  sat : FR → Hp → HO → Prop
  mono : ∀ {K : FR} {F F' : Hp} {o : HO}, Same F F' → sat K F o → sat K F' o
def ownL {α : Type} [Enc α] (xs : List α) : OD := ⟨fun K F o => ∃ ys, o = .lst ys ∧ Paired (rep K F) ys xs, fun e ⟨ys, h1, h2⟩ => ⟨ys, h1, pmono e h2⟩⟩
abbrev OS := List (Addr × OD)
structure Hd (K : FR) (F : Hp) (O : OS) (H : Hp) : Prop where
  ex : Same F H
  own : ∀ p ∈ O, F p.1 = none ∧ ∃ o, H p.1 = some o ∧ p.2.sat K F o
  nd : (O.map (·.1)).Nodup
section
variable {K : FR} {F F' H H' : Hp} {O O' : OS} {p : Addr} {o : HO} {d d' : OD} {i : Nat}
theorem same_upd {H : Hp} {p : Addr} {o : HO} (h : H p = none) : Same H (upd H p o) := fun b x e => by
  rw [upd_ne (ne_of_none e h)]
  exact e
theorem Hd.sub (h : Hd K F O H) (s : O'.Sublist O) : Hd K F O' H := ⟨h.ex, fun p hp => h.own p (s.subset hp), (s.map _).nodup h.nd⟩
theorem Hd.drop {x : Addr × OD} (h : Hd K F (x :: O) H) : Hd K F O H := h.sub (List.sublist_cons_self _ _)
theorem Hd.perm (h : Hd K F O H) (s : O'.Perm O) : Hd K F O' H := ⟨h.ex, fun p hp => h.own p (s.subset hp), (s.map _).nodup_iff.mpr h.nd⟩
theorem Hd.free (h : Hd K F O H) (hp : H p = none) : F p = none := h.ex.free hp
theorem Hd.get (h : Hd K F O H) (hm : (p, d) ∈ O) : ∃ o, H p = some o ∧ d.sat K F o := (h.own _ hm).2
theorem Hd.new (h : Hd K F O H) (hp : H p = none) (hd : d.sat K F o) : Hd K F ((p, d) :: O) (upd H p o) := by
  have ne : ∀ q ∈ O, q.1 ≠ p := fun q hq e => by
    obtain ⟨_, o', e1, _⟩ := h.own q hq
    rw [e, hp] at e1
    cases e1
  refine ⟨h.ex.trans (same_upd hp), fun q hq => ?_, ?_⟩
  · rcases List.mem_cons.mp hq with e | hq
    · subst e
      exact ⟨h.free hp, o, upd_same, hd⟩
    · obtain ⟨e0, o', e1, e2⟩ := h.own q hq
      exact ⟨e0, o', by rw [upd_ne (ne q hq)]; exact e1, e2⟩
  · rw [List.map_cons, List.nodup_cons]
    refine ⟨fun z => ?_, h.nd⟩
    obtain ⟨q, hq, e⟩ := List.mem_map.mp z
    exact ne q hq e
theorem Hd.frz (h : Hd K F O H) (hp : H p = none) : Hd K (upd F p o) O (upd H p o) := by
  have ne : ∀ q ∈ O, q.1 ≠ p := fun q hq e => by
    obtain ⟨_, o', e1, _⟩ := h.own q hq
    rw [e, hp] at e1
    cases e1
  refine ⟨fun b x e => ?_, fun q hq => ?_, h.nd⟩
  · by_cases hb : b = p
    · subst hb
      rw [upd_same] at e ⊢
      exact e
    · rw [upd_ne hb] at e ⊢
      exact h.ex b x e
  · obtain ⟨e0, o', e1, e2⟩ := h.own q hq
    exact ⟨by rw [upd_ne (ne q hq)]; exact e0, o', by rw [upd_ne (ne q hq)]; exact e1, q.2.mono (same_upd (h.free hp)) e2⟩
theorem Hd.fix (h : Hd K F ((p, d) :: O) H) : ∃ o, H p = some o ∧ d.sat K F o ∧ Same F (upd F p o) ∧ Hd K (upd F p o) O H := by
  obtain ⟨e0, o, e1, e2⟩ := h.own _ List.mem_cons_self
  have nd := h.nd
  rw [List.map_cons, List.nodup_cons] at nd
  have ne : ∀ q ∈ O, q.1 ≠ p := fun q hq e => nd.1 (List.mem_map.mpr ⟨q, hq, e⟩)
  refine ⟨o, e1, e2, same_upd e0, fun b x e => ?_, fun q hq => ?_, nd.2⟩
  · by_cases hb : b = p
    · subst hb
      rw [upd_same] at e
      cases e
      exact e1
    · rw [upd_ne hb] at e
      exact h.ex b x e
  · obtain ⟨z0, o', z1, z2⟩ := h.own q (List.mem_cons_of_mem _ hq)
    exact ⟨by rw [upd_ne (ne q hq)]; exact z0, o', z1, q.2.mono (same_upd e0) z2⟩
theorem map_set_fst {i : Nat} {p : Addr} {d d' : OD} : ∀ {O : OS} {i : Nat}, O[i]? = some (p, d) → (O.set i (p, d')).map (·.1) = O.map (·.1)
  | [], i, h => by simp at h
  | x :: O, 0, h => by
    have e : x = (p, d) := Option.some.inj h
    subst e
    rfl
  | x :: O, i + 1, h => by
    show x.1 :: (O.set i (p, d')).map (·.1) = x.1 :: O.map (·.1)
    rw [map_set_fst (O := O) (i := i) h]
theorem Hd.set (h : Hd K F O H) (hi : O[i]? = some (p, d)) (hd : d'.sat K F o) : Hd K F (O.set i (p, d')) (upd H p o) := by
  obtain ⟨e0, _⟩ := h.own (p, d) (List.mem_of_getElem? hi)
  refine ⟨fun b x e => ?_, fun q hq => ?_, by rw [map_set_fst (i := i) hi]; exact h.nd⟩
  · rw [upd_ne (ne_of_none e e0)]
    exact h.ex b x e
  · obtain ⟨j, hj⟩ := List.mem_iff_getElem?.mp hq
    by_cases hji : i = j
    · subst hji
      have hl : i < O.length := by
        rcases Nat.lt_or_ge i O.length with z | z
        · exact z
        · rw [List.getElem?_eq_none z] at hi
          cases hi
      rw [List.getElem?_set_self hl] at hj
      cases hj
      exact ⟨e0, o, upd_same, hd⟩
    · rw [List.getElem?_set_ne hji] at hj
      obtain ⟨z0, o', z1, z2⟩ := h.own q (List.mem_of_getElem? hj)
      have ne : q.1 ≠ p := fun e => by
        have a1 : (O.map (·.1))[i]? = some p := by rw [List.getElem?_map, hi]; rfl
        have a2 : (O.map (·.1))[j]? = some p := by rw [List.getElem?_map, hj]; exact congrArg some e
        exact hji (nd_ix h.nd a1 a2)
      exact ⟨z0, o', by rw [upd_ne ne]; exact z1, z2⟩
end

/-! ### evaluation -/
def Ev (K : FR) (te : TE) (σ : L2.St) (F : Hp) (O O' : OS) {α : Type} [Enc α] (x : α) : Prop :=
  ∀ F1 H1, Same F F1 → Hd K F1 O H1 → ∀ Q : VK, (∀ v F2 H2, Same F1 F2 → Hd K F2 O' H2 → rep K F2 v x → Q v H2) → te σ H1 Q
/-- a new owned object -/
def EvN (K : FR) (te : TE) (σ : L2.St) (F : Hp) (O O' : OS) (d : OD) : Prop :=
  ∀ F1 H1, Same F F1 → Hd K F1 O H1 → ∀ Q : VK, (∀ l F2 H2, Same F1 F2 → Hd K F2 ((l, d) :: O') H2 → Q (.ref l) H2) → te σ H1 Q
def EvT (K : FR) (tt : TT) (σ : L2.St) (F : Hp) (O O' : OS) (b : Bool) : Prop :=
  ∀ F1 H1, Same F F1 → Hd K F1 O H1 → ∀ Q : Bool → Hp → Prop, (∀ F2 H2, Same F1 F2 → Hd K F2 O' H2 → Q b H2) → tt σ H1 Q
def EvA (K : FR) (ta : TA) (σ : L2.St) (F : Hp) (O O' : OS) {α : Type} [EncA α] (x : α) : Prop :=
  ∀ F1 H1, Same F F1 → Hd K F1 O H1 → ∀ Q : List V → Hp → Prop, (∀ vs F2 H2, Same F1 F2 → Hd K F2 O' H2 → repA K F2 vs x → Q vs H2) → ta σ H1 Q
section
variable {K : FR} {σ : L2.St} {F F' H : Hp} {O O1 O2 O3 : OS} {ta tb tc te : TE} {t u : TT}
theorem Ev.mono {α : Type} [Enc α] {x : α} (e : Same F F') (h : Ev K te σ F O O1 x) : Ev K te σ F' O O1 x := fun F1 H1 a => h F1 H1 (e.trans a)
theorem EvN.mono {d : OD} (e : Same F F') (h : EvN K te σ F O O1 d) : EvN K te σ F' O O1 d := fun F1 H1 a => h F1 H1 (e.trans a)
theorem EvT.mono {b : Bool} (e : Same F F') (h : EvT K t σ F O O1 b) : EvT K t σ F' O O1 b := fun F1 H1 a => h F1 H1 (e.trans a)
/-- a new list, never changed from here on -/
theorem EvN.fz {α : Type} [Enc α] {xs : List α} [e : Enc (List α)] (he : e = encList) (h : EvN K te σ F O O1 (ownL xs)) : Ev K te σ F O O1 xs := by
  subst he
  intro F1 H1 e hS Q q
  refine h F1 H1 e hS Q fun l F2 H2 e2 h2 => ?_
  obtain ⟨o, a1, ⟨ys, a2, a3⟩, a4, a5⟩ := h2.fix
  subst a2
  exact q _ _ _ (e2.trans a4) a5 ⟨l, ys, rfl, upd_same, pmono a4 a3⟩
/-! values without effect -/
theorem ev_of {α : Type} [Enc α] {x : α} {v : V} (h : ∀ F1, Same F F1 → rep K F1 v x) (ht : ∀ (H : Hp) (Q : VK), Q v H → te σ H Q) : Ev K te σ F O O x :=
  fun F1 H1 e hS Q q => ht H1 Q (q v F1 H1 (Same.refl _) hS (h F1 e))
theorem ev_var {α : Type} [Enc α] {x : α} {i : Nat} {v : V} (hi : σ[i]? = some (some v)) (h : rep K F v x) : Ev K (tVar i) σ F O O x :=
  ev_of (v := v) (fun _ e => G.mono e h) fun _ _ q => ⟨v, hi, q⟩
theorem ev_c {α : Type} [Enc α] {x : α} {v : V} (h : rep K F v x) : Ev K (tC v) σ F O O x := ev_of (v := v) (fun _ e => G.mono e h) fun _ _ q => q
theorem ev_int {i : Int} : Ev K (tC (.int i)) σ F O O i := ev_c rfl
theorem ev_bl {b : Bool} : Ev K (tC (.bl b)) σ F O O b := ev_c rfl
theorem ev_non : Ev K (tC .non) σ F O O () := ev_c rfl
theorem ev_str {s : Str} (h : TxOk s.cps.toList) : Ev K (tC (.str s)) σ F O O s.cps.toList := ev_c ⟨rfl, h⟩
/-! two-place operations -/
def RV {α β γ : Type} [Enc α] [Enc β] [Enc γ] (K : FR) (r : R2) (F : Hp) (O : OS) (x : α) (y : β) (z : γ) : Prop :=
  ∀ F1 H1 v w, Same F F1 → Hd K F1 O H1 → rep K F1 v x → rep K F1 w y → ∀ Q : VK, (∀ u F2 H2, Same F1 F2 → Hd K F2 O H2 → rep K F2 u z → Q u H2) → r v w H1 Q
theorem ev_op {α β γ : Type} [Enc α] [Enc β] [Enc γ] {x : α} {y : β} {z : γ} {r : R2} (ha : Ev K ta σ F O O1 x) (hb : Ev K tb σ F O1 O2 y) (hr : RV K r F O2 x y z) : Ev K (tOp r ta tb) σ F O O2 z :=
  fun F1 H1 e hS Q q => ha F1 H1 e hS _ fun v F2 H2 e2 h2 r2 => hb F2 H2 (e.trans e2) h2 _ fun w F3 H3 e3 h3 r3 =>
    hr F3 H3 v w ((e.trans e2).trans e3) h3 (G.mono e3 r2) r3 Q fun u F4 H4 e4 => q u F4 H4 ((e2.trans e3).trans e4)
theorem rv_I0 {γ : Type} [Enc γ] {g : Int → Int → V} {i j : Int} {z : γ} (h : ∀ F, rep K F (g i j) z) : RV K (rI0 g) F O i j z := by
  intro F1 H1 v w e hS rv rw_ Q q
  cases rv
  cases rw_
  exact ⟨i, j, rfl, rfl, q _ F1 H1 (Same.refl _) hS (h F1)⟩
theorem rv_I {γ : Type} [Enc γ] {C : Int → Int → Prop} {g : Int → Int → V} {i j : Int} {z : γ} (hc : C i j) (h : ∀ F, rep K F (g i j) z) : RV K (rI C g) F O i j z := by
  intro F1 H1 v w e hS rv rw_ Q q
  cases rv
  cases rw_
  exact ⟨i, j, rfl, rfl, hc, q _ F1 H1 (Same.refl _) hS (h F1)⟩
theorem ev_add {i j : Int} (ha : Ev K ta σ F O O1 i) (hb : Ev K tb σ F O1 O2 j) : Ev K (tOp (rI0 fun i j => .int (i + j)) ta tb) σ F O O2 (i + j) := ev_op ha hb (rv_I0 fun _ => rfl)
theorem ev_sub {i j : Int} (ha : Ev K ta σ F O O1 i) (hb : Ev K tb σ F O1 O2 j) : Ev K (tOp (rI0 fun i j => .int (i - j)) ta tb) σ F O O2 (i - j) := ev_op ha hb (rv_I0 fun _ => rfl)
def mulI (i j : Int) : Option Int := if (-(2 ^ 64) < i ∧ i < 2 ^ 64) ∨ (-(2 ^ 64) < j ∧ j < 2 ^ 64) then some (i * j) else none
theorem ev_mul {i j z : Int} (ha : Ev K ta σ F O O1 i) (hb : Ev K tb σ F O1 O2 j) (h : mulI i j = some z) : Ev K (tOp (rI CMul fun i j => .int (i * j)) ta tb) σ F O O2 z := by
  unfold mulI at h
  split at h
  · cases h
    exact ev_op ha hb (rv_I (by assumption) fun _ => rfl)
  · cases h
theorem ev_mod {i j : Int} (ha : Ev K ta σ F O O1 i) (hb : Ev K tb σ F O1 O2 j) (h : 0 < j) : Ev K (tOp (rI (fun _ j => 0 < j) fun i j => .int (i % j)) ta tb) σ F O O2 (i % j) := ev_op ha hb (rv_I h fun _ => rfl)
theorem ev_fdiv {i j : Int} (ha : Ev K ta σ F O O1 i) (hb : Ev K tb σ F O1 O2 j) (h : CDiv i j) : Ev K (tOp (rI CDiv fun i j => .int (i / j)) ta tb) σ F O O2 (i / j) := ev_op ha hb (rv_I h fun _ => rfl)
def modI (i j : Int) : Option Int := if 0 < j then some (i % j) else none
theorem ev_modP {i j z : Int} (ha : Ev K ta σ F O O1 i) (hb : Ev K tb σ F O1 O2 j) (h : modI i j = some z) : Ev K (tOp (rI (fun _ j => 0 < j) fun i j => .int (i % j)) ta tb) σ F O O2 z := by
  unfold modI at h
  split at h
  · cases h
    exact ev_mod ha hb (by assumption)
  · cases h
def fdivI (i j : Int) : Option Int := if 0 < j ∧ j < 1073741824 then some (i / j) else none
theorem ev_fdivP {i j z : Int} (ha : Ev K ta σ F O O1 i) (hb : Ev K tb σ F O1 O2 j) (h : fdivI i j = some z) : Ev K (tOp (rI CDiv fun i j => .int (i / j)) ta tb) σ F O O2 z := by
  unfold fdivI at h
  split at h
  · cases h
    exact ev_fdiv ha hb (by assumption)
  · cases h
theorem ev_pow {i j : Int} (ha : Ev K ta σ F O O1 i) (hb : Ev K tb σ F O1 O2 j) (h : CPow i j) : Ev K (tOp (rI CPow fun i j => .int (i ^ j.toNat)) ta tb) σ F O O2 (i ^ j.toNat) := ev_op ha hb (rv_I h fun _ => rfl)
theorem ev_lt {i j : Int} (ha : Ev K ta σ F O O1 i) (hb : Ev K tb σ F O1 O2 j) : Ev K (tOp (rI0 fun i j => .bl (decide (i < j))) ta tb) σ F O O2 (decide (i < j)) := ev_op ha hb (rv_I0 fun _ => rfl)
theorem ev_le {i j : Int} (ha : Ev K ta σ F O O1 i) (hb : Ev K tb σ F O1 O2 j) : Ev K (tOp (rI0 fun i j => .bl (decide (i ≤ j))) ta tb) σ F O O2 (decide (i ≤ j)) := ev_op ha hb (rv_I0 fun _ => rfl)
theorem ev_gt {i j : Int} (ha : Ev K ta σ F O O1 i) (hb : Ev K tb σ F O1 O2 j) : Ev K (tOp (rI0 fun i j => .bl (decide (j < i))) ta tb) σ F O O2 (decide (j < i)) := ev_op ha hb (rv_I0 fun _ => rfl)
theorem ev_ge {i j : Int} (ha : Ev K ta σ F O O1 i) (hb : Ev K tb σ F O1 O2 j) : Ev K (tOp (rI0 fun i j => .bl (decide (j ≤ i))) ta tb) σ F O O2 (decide (j ≤ i)) := ev_op ha hb (rv_I0 fun _ => rfl)
theorem dec_tx {x y : Tx} : decide (tx x = tx y) = decide (x = y) := by
  rw [Bool.eq_iff_iff]
  simp [tx]
theorem ev_eqI {i j : Int} (ha : Ev K ta σ F O O1 i) (hb : Ev K tb σ F O1 O2 j) : Ev K (tOp rEq ta tb) σ F O O2 (decide (i = j)) := by
  refine ev_op ha hb ?_
  intro F1 H1 v w e hS rv rw_ Q q
  cases rv
  cases rw_
  refine ⟨rfl, q _ F1 H1 (Same.refl _) hS ?_⟩
  show V.bl _ = V.bl _
  rw [dec_int, Bool.beq_eq_decide_eq]
theorem ev_neI {i j : Int} (ha : Ev K ta σ F O O1 i) (hb : Ev K tb σ F O1 O2 j) : Ev K (tOp rNe ta tb) σ F O O2 (!decide (i = j)) := by
  refine ev_op ha hb ?_
  intro F1 H1 v w e hS rv rw_ Q q
  cases rv
  cases rw_
  refine ⟨rfl, q _ F1 H1 (Same.refl _) hS ?_⟩
  show V.bl _ = V.bl _
  rw [dec_int, Bool.beq_eq_decide_eq]
theorem ev_eqB {i j : Bool} (ha : Ev K ta σ F O O1 i) (hb : Ev K tb σ F O1 O2 j) : Ev K (tOp rEq ta tb) σ F O O2 (decide (i = j)) := by
  refine ev_op ha hb ?_
  intro F1 H1 v w e hS rv rw_ Q q
  cases rv
  cases rw_
  refine ⟨rfl, q _ F1 H1 (Same.refl _) hS ?_⟩
  show V.bl _ = V.bl _
  rw [dec_bl, Bool.beq_eq_decide_eq]
theorem ev_neB {i j : Bool} (ha : Ev K ta σ F O O1 i) (hb : Ev K tb σ F O1 O2 j) : Ev K (tOp rNe ta tb) σ F O O2 (!decide (i = j)) := by
  refine ev_op ha hb ?_
  intro F1 H1 v w e hS rv rw_ Q q
  cases rv
  cases rw_
  refine ⟨rfl, q _ F1 H1 (Same.refl _) hS ?_⟩
  show V.bl _ = V.bl _
  rw [dec_bl, Bool.beq_eq_decide_eq]
theorem ev_eqS {i j : Tx} (ha : Ev K ta σ F O O1 i) (hb : Ev K tb σ F O1 O2 j) : Ev K (tOp rEq ta tb) σ F O O2 (decide (i = j)) := by
  refine ev_op ha hb ?_
  intro F1 H1 v w e hS rv rw_ Q q
  obtain ⟨rfl, _⟩ := rv
  obtain ⟨rfl, _⟩ := rw_
  refine ⟨rfl, q _ F1 H1 (Same.refl _) hS ?_⟩
  show V.bl _ = V.bl _
  rw [dec_tx]
theorem ev_neS {i j : Tx} (ha : Ev K ta σ F O O1 i) (hb : Ev K tb σ F O1 O2 j) : Ev K (tOp rNe ta tb) σ F O O2 (!decide (i = j)) := by
  refine ev_op ha hb ?_
  intro F1 H1 v w e hS rv rw_ Q q
  obtain ⟨rfl, _⟩ := rv
  obtain ⟨rfl, _⟩ := rw_
  refine ⟨rfl, q _ F1 H1 (Same.refl _) hS ?_⟩
  show V.bl _ = V.bl _
  rw [dec_tx]
/-! texts -/
def catS (x y : Tx) : Option Tx := if x.length + y.length ≤ LN then some (x ++ y) else none
theorem ev_catS {x y z : Tx} (ha : Ev K ta σ F O O1 x) (hb : Ev K tb σ F O1 O2 y) (h : catS x y = some z) : Ev K (tOp (fun x y H Q => ∃ i j, x = .str i ∧ y = .str j ∧ i.length + j.length ≤ sizeLine ∧ Q (.str (i ++ j)) H) ta tb) σ F O O2 z := by
  unfold catS at h
  split at h
  · cases h
    refine ev_op ha hb ?_
    intro F1 H1 v w e hS rv rw_ Q q
    obtain ⟨rfl, h1⟩ := rv
    obtain ⟨rfl, h2⟩ := rw_
    rename_i hz
    refine ⟨⟨⟨x⟩⟩, ⟨⟨y⟩⟩, rfl, rfl, ln_size hz, q _ F1 H1 (Same.refl _) hS ⟨?_, ?_⟩⟩
    · show V.str ⟨⟨x⟩ ++ ⟨y⟩⟩ = V.str ⟨⟨x ++ y⟩⟩
      congr 2
      simp
    · refine TxOk.mk' (by rw [List.length_append]; exact hz) fun c hc => ?_
      rcases List.mem_append.mp hc with z | z
      · exact h1.lt c z
      · exact h2.lt c z
  · cases h
theorem atI_mem {α : Type} {xs : List α} {i : Int} {x : α} (h : atI xs i = some x) : x ∈ xs := by
  unfold atI at h
  obtain ⟨j, _, hj⟩ := Option.bind_eq_some_iff.mp h
  exact List.mem_of_getElem? hj
/-- t[i] -/
def ixS (x : Tx) (i : Int) : Option Tx := (atI x i).map fun c => [c]
theorem ev_ixS {x z : Tx} {i : Int} (ha : Ev K ta σ F O O1 x) (hb : Ev K tb σ F O1 O2 i) (h : ixS x i = some z) : Ev K (tOp rIxS ta tb) σ F O O2 z := by
  unfold ixS at h
  obtain ⟨c, hc, rfl⟩ := Option.map_eq_some_iff.mp h
  refine ev_op ha hb ?_
  intro F1 H1 v w e hS rv rw_ Q q
  obtain ⟨rfl, h1⟩ := rv
  cases rw_
  exact ⟨⟨⟨x⟩⟩, i, c, rfl, rfl, ln_size h1.1, hc, q _ F1 H1 (Same.refl _) hS ⟨rfl, TxOk.mk' (by simp [LN]) fun d hd => by
    rw [List.mem_singleton.mp hd]
    exact h1.lt c (atI_mem hc)⟩⟩
/-- x in t, by one sign or any text -/
theorem ev_inC {c : Tx} {y : Tx} {b : Nat} (ha : Ev K ta σ F O O1 c) (hb : Ev K tb σ F O1 O2 y) (h : c = [b]) : Ev K (tOp (fun x y H Q => ∃ (c : Nat) (z : Str), x = .str ⟨#[c]⟩ ∧ y = .str z ∧ Q (.bl (decide (c ∈ z.cps.toList))) H) ta tb) σ F O O2 (decide (b ∈ y)) := by
  subst h
  refine ev_op ha hb ?_
  intro F1 H1 v w e hS rv rw_ Q q
  obtain ⟨rfl, h1⟩ := rv
  obtain ⟨rfl, h2⟩ := rw_
  exact ⟨b, ⟨⟨y⟩⟩, rfl, rfl, q _ F1 H1 (Same.refl _) hS rfl⟩
def inC (c y : Tx) : Option Bool := match c with
  | [b] => some (decide (b ∈ y))
  | _ => none
theorem ev_inS {c y : Tx} {b : Bool} (ha : Ev K ta σ F O O1 c) (hb : Ev K tb σ F O1 O2 y) (h : inC c y = some b) : Ev K (tOp (fun x y H Q => ∃ (c : Nat) (z : Str), x = .str ⟨#[c]⟩ ∧ y = .str z ∧ Q (.bl (decide (c ∈ z.cps.toList))) H) ta tb) σ F O O2 b := by
  unfold inC at h
  split at h
  · cases h
    exact ev_inC ha hb rfl
  · cases h
theorem ev_niS {c y : Tx} {b : Bool} (ha : Ev K ta σ F O O1 c) (hb : Ev K tb σ F O1 O2 y) (h : inC c y = some b) : Ev K (tOp (fun x y H Q => ∃ (c : Nat) (z : Str), x = .str ⟨#[c]⟩ ∧ y = .str z ∧ Q (.bl (!decide (c ∈ z.cps.toList))) H) ta tb) σ F O O2 (!b) := by
  unfold inC at h
  split at h
  · rename_i d
    cases h
    refine ev_op ha hb ?_
    intro F1 H1 v w e hS rv rw_ Q q
    obtain ⟨rfl, h1⟩ := rv
    obtain ⟨rfl, h2⟩ := rw_
    exact ⟨d, ⟨⟨y⟩⟩, rfl, rfl, q _ F1 H1 (Same.refl _) hS rfl⟩
  · cases h
/-! arguments, calls -/
theorem ea_nil : EvA K tNil σ F O O () := fun F1 H1 e hS Q q => q [] F1 H1 (Same.refl _) hS rfl
theorem ea_cons {α β : Type} [Enc α] [EncA β] {x : α} {y : β} {tr : TA} (h : Ev K ta σ F O O1 x) (hr : EvA K tr σ F O1 O2 y) : EvA K (tCons ta tr) σ F O O2 (x, y) := fun F1 H1 e hS Q q =>
  h F1 H1 e hS _ fun v F2 H2 e2 h2 r2 => hr F2 H2 (e.trans e2) h2 _ fun vs F3 H3 e3 h3 r3 => q (v :: vs) F3 H3 (e2.trans e3) h3 ⟨v, vs, rfl, G.mono e3 r2, r3⟩
/-- a call by values -/
def RC {α γ : Type} [EncA α] [Enc γ] (K : FR) (r : List V → Hp → VK → Prop) (F : Hp) (O O1 : OS) (x : α) (z : γ) : Prop :=
  ∀ F1 H1 vs, Same F F1 → Hd K F1 O H1 → repA K F1 vs x → ∀ Q : VK, (∀ u F2 H2, Same F1 F2 → Hd K F2 O1 H2 → rep K F2 u z → Q u H2) → r vs H1 Q
theorem ev_cb {α γ : Type} [EncA α] [Enc γ] {x : α} {z : γ} {r : List V → Hp → VK → Prop} {ta : TA} (h : EvA K ta σ F O O1 x) (hr : RC K r F O1 O2 x z) : Ev K (tCB r ta) σ F O O2 z := fun F1 H1 e hS Q q =>
  h F1 H1 e hS _ fun vs F2 H2 e2 h2 r2 => hr F2 H2 vs (e.trans e2) h2 r2 Q fun u F3 H3 e3 => q u F3 H3 (e2.trans e3)
theorem paired_len {α β : Type} {R : α → β → Prop} : ∀ {l : List α} {m : List β}, Paired R l m → l.length = m.length
  | _, _, .nil => rfl
  | _, _, .cons _ t => by rw [List.length_cons, List.length_cons, paired_len t]
theorem paired_get {α β : Type} {R : α → β → Prop} : ∀ {l : List α} {m : List β} {i : Nat} {y : β}, Paired R l m → m[i]? = some y → ∃ x, l[i]? = some x ∧ R x y
  | _, _, i, y, .nil, h => by simp at h
  | _, _, 0, y, .cons r t, h => ⟨_, rfl, by cases (Option.some.inj h); exact r⟩
  | _, _, i + 1, y, .cons r t, h => paired_get (i := i) t h
/-- lists, read: frozen or owned -/
def rLen (K : FR) : List V → Hp → VK → Prop := fun xs H Q => ∃ p ys, xs = [.ref p] ∧ (SqL K H p ys ∨ SqT K H p ys) ∧ Q (.int ys.length) H
theorem ev_len {α : Type} [Enc α] {xs : List α} [en : Enc (List α)] (he : en = encList) (h : Ev K ta σ F O O1 xs) : Ev K (tCB (rLen K) (tCons ta tNil)) σ F O O1 (xs.length : Int) := by
  subst he
  refine ev_cb (ea_cons h ea_nil) ?_
  intro F1 H1 vs e hS r Q q
  obtain ⟨v, _, rfl, ⟨a, ys, rfl, h2, h3⟩, rfl⟩ := r
  exact ⟨a, ys, rfl, .inl (SqL.of (hS.ex _ _ h2)), by rw [paired_len h3]; exact q _ F1 H1 (Same.refl _) hS rfl⟩
theorem ev_lenT {α : Type} [Enc α] {xs : Tp α} (h : Ev K ta σ F O O1 xs) : Ev K (tCB (rLen K) (tCons ta tNil)) σ F O O1 (xs.l.length : Int) := by
  refine ev_cb (ea_cons h ea_nil) ?_
  intro F1 H1 vs e hS r Q q
  obtain ⟨v, _, rfl, ⟨a, ys, rfl, h2, h3⟩, rfl⟩ := r
  exact ⟨a, ys, rfl, .inr (same_t hS.ex h2), by rw [paired_len h3]; exact q _ F1 H1 (Same.refl _) hS rfl⟩
theorem ev_lenO {α : Type} [Enc α] {xs : List α} {l : Addr} (h : Ev K ta σ F O O1 (Lc.mk l)) (hm : (l, ownL xs) ∈ O1) : Ev K (tCB (rLen K) (tCons ta tNil)) σ F O O1 (xs.length : Int) := by
  refine ev_cb (ea_cons h ea_nil) ?_
  intro F1 H1 vs e hS r Q q
  obtain ⟨v, _, rfl, rfl, rfl⟩ := r
  obtain ⟨o, h1, ys, rfl, h3⟩ := hS.get hm
  exact ⟨l, ys, rfl, .inl (SqL.of h1), by rw [paired_len h3]; exact q _ F1 H1 (Same.refl _) hS rfl⟩
theorem ev_lenS {x : Tx} (h : Ev K ta σ F O O1 x) : Ev K (tCB (fun xs H Q => ∃ z, xs = [.str z] ∧ z.length ≤ sizeLine ∧ Q (.int z.length) H) (tCons ta tNil)) σ F O O1 (x.length : Int) := by
  refine ev_cb (ea_cons h ea_nil) ?_
  intro F1 H1 vs e hS r Q q
  obtain ⟨v, _, rfl, ⟨rfl, h2⟩, rfl⟩ := r
  exact ⟨⟨⟨x⟩⟩, rfl, ln_size h2.1, q _ F1 H1 (Same.refl _) hS rfl⟩
theorem atI_map {α β : Type} (f : α → β) (xs : List α) (i : Int) : atI (xs.map f) i = (atI xs i).map f := by
  unfold atI
  simp only [List.length_map, List.getElem?_map]
  cases ixN xs.length i <;> rfl
theorem atI_paired {α β : Type} {R : α → β → Prop} {l : List α} {m : List β} {i : Int} {y : β} (h : Paired R l m) (hi : atI m i = some y) : ∃ x, atI l i = some x ∧ R x y := by
  have e := paired_len h
  unfold atI at hi ⊢
  rw [e]
  cases q : ixN m.length i with
  | none =>
    rw [q] at hi
    cases hi
  | some j =>
    rw [q] at hi
    exact paired_get h hi
theorem ev_ixL {α : Type} [Enc α] {xs : List α} [en : Enc (List α)] (he : en = encList) {i : Int} {x : α} (ha : Ev K ta σ F O O1 xs) (hb : Ev K tb σ F O1 O2 i) (h : atI xs i = some x) : Ev K (tOp (rIxL K) ta tb) σ F O O2 x := by
  subst he
  refine ev_op ha hb ?_
  intro F1 H1 v w e hS rv rw_ Q q
  obtain ⟨a, ys, rfl, h2, h3⟩ := rv
  cases rw_
  obtain ⟨y, hy, ry⟩ := atI_paired h3 h
  exact ⟨a, ys, i, y, rfl, rfl, SqL.of (hS.ex _ _ h2), hy, q _ F1 H1 (Same.refl _) hS ry⟩
theorem ev_ixT {α : Type} [Enc α] {xs : Tp α} {i : Int} {x : α} (ha : Ev K ta σ F O O1 xs) (hb : Ev K tb σ F O1 O2 i) (h : atI xs.l i = some x) : Ev K (tOp (rIxT K) ta tb) σ F O O2 x := by
  refine ev_op ha hb ?_
  intro F1 H1 v w e hS rv rw_ Q q
  obtain ⟨a, ys, rfl, h2, h3⟩ := rv
  cases rw_
  obtain ⟨y, hy, ry⟩ := atI_paired h3 h
  exact ⟨a, ys, i, y, rfl, rfl, same_t hS.ex h2, hy, q _ F1 H1 (Same.refl _) hS ry⟩
theorem ev_ixO {α : Type} [Enc α] {xs : List α} {l : Addr} {i : Int} {x : α} (ha : Ev K ta σ F O O1 (Lc.mk l)) (hb : Ev K tb σ F O1 O2 i) (hm : (l, ownL xs) ∈ O2) (h : atI xs i = some x) : Ev K (tOp (rIxL K) ta tb) σ F O O2 x := by
  refine ev_op ha hb ?_
  intro F1 H1 v w e hS rv rw_ Q q
  cases rv
  cases rw_
  obtain ⟨o, h1, ys, rfl, h3⟩ := hS.get hm
  obtain ⟨y, hy, ry⟩ := atI_paired h3 h
  exact ⟨l, ys, i, y, rfl, rfl, SqL.of h1, hy, q _ F1 H1 (Same.refl _) hS ry⟩
end
end G

namespace G
open PySem PySem.Spec PyProof.Rows L2
section
variable {K : FR} {σ : L2.St} {F F' H : Hp} {O O1 O2 O3 : OS} {ta tb tc te : TE} {t u : TT}
/-! ### tests -/
theorem evt_test {b : Bool} (h : Ev K te σ F O O1 b) : EvT K (tTest te) σ F O O1 b := fun F1 H1 e hS Q q =>
  h F1 H1 e hS _ fun v F2 H2 e2 h2 r => ⟨b, r, q F2 H2 e2 h2⟩
theorem evt_B {b : Bool} (h : Ev K te σ F O O1 b) : EvT K (tB te) σ F O O1 b := fun F1 H1 e hS Q q =>
  h F1 H1 e hS _ fun v F2 H2 e2 h2 r => ⟨b, r, q F2 H2 e2 h2⟩
theorem evt_not {b : Bool} (h : EvT K t σ F O O1 b) : EvT K (tNot t) σ F O O1 (!b) := fun F1 H1 e hS Q q =>
  h F1 H1 e hS _ fun F2 H2 e2 h2 => q F2 H2 e2 h2
theorem evt_and {a b : Bool} (h1 : EvT K t σ F O O1 a) (h2 : a = true → EvT K u σ F O1 O1 b) : EvT K (tAnd t u) σ F O O1 (a && b) := fun F1 H1 e hS Q q =>
  h1 F1 H1 e hS _ fun F2 H2 e2 g2 => by
    cases a with
    | true =>
      show u σ H2 Q
      exact h2 rfl F2 H2 (e.trans e2) g2 Q fun F3 H3 e3 g3 => q F3 H3 (e2.trans e3) g3
    | false =>
      show Q false H2
      exact q F2 H2 e2 g2
theorem evt_or {a b : Bool} (h1 : EvT K t σ F O O1 a) (h2 : a = false → EvT K u σ F O1 O1 b) : EvT K (tOr t u) σ F O O1 (a || b) := fun F1 H1 e hS Q q =>
  h1 F1 H1 e hS _ fun F2 H2 e2 g2 => by
    cases a with
    | false =>
      show u σ H2 Q
      exact h2 rfl F2 H2 (e.trans e2) g2 Q fun F3 H3 e3 g3 => q F3 H3 (e2.trans e3) g3
    | true =>
      show Q true H2
      exact q F2 H2 e2 g2
/-- the right one partial: looked at only where the left leaves it open -/
def gAnd (a : Bool) (m : Option Bool) : Option Bool := if a then m else some false
def gOr (a : Bool) (m : Option Bool) : Option Bool := if a then some true else m
theorem evt_andM {a c : Bool} {m : Option Bool} (hc : gAnd a m = some c) (h1 : EvT K t σ F O O1 a) (h2 : a = true → ∀ b, m = some b → EvT K u σ F O1 O1 b) : EvT K (tAnd t u) σ F O O1 c := by
  unfold gAnd at hc
  cases a with
  | true =>
    have e : (true && c) = c := rfl
    rw [← e]
    exact evt_and h1 fun ha => h2 ha c hc
  | false =>
    cases hc
    exact evt_and (b := false) h1 fun ha => by cases ha
theorem evt_orM {a c : Bool} {m : Option Bool} (hc : gOr a m = some c) (h1 : EvT K t σ F O O1 a) (h2 : a = false → ∀ b, m = some b → EvT K u σ F O1 O1 b) : EvT K (tOr t u) σ F O O1 c := by
  unfold gOr at hc
  cases a with
  | false =>
    have e : (false || c) = c := rfl
    rw [← e]
    exact evt_or h1 fun ha => h2 ha c hc
  | true =>
    cases hc
    exact evt_or (b := false) h1 fun ha => by cases ha
theorem ev_andV {a b : Bool} (h1 : Ev K ta σ F O O1 a) (h2 : a = true → Ev K tb σ F O1 O1 b) : Ev K (tAndV ta tb) σ F O O1 (a && b) := fun F1 H1 e hS Q q =>
  h1 F1 H1 e hS _ fun v F2 H2 e2 g2 r => ⟨a, r, by
    cases a with
    | true =>
      show tb σ H2 Q
      exact h2 rfl F2 H2 (e.trans e2) g2 Q fun v F3 H3 e3 g3 => q v F3 H3 (e2.trans e3) g3
    | false =>
      show Q (.bl false) H2
      exact q _ F2 H2 e2 g2 rfl⟩
theorem ev_orV {a b : Bool} (h1 : Ev K ta σ F O O1 a) (h2 : a = false → Ev K tb σ F O1 O1 b) : Ev K (tOrV ta tb) σ F O O1 (a || b) := fun F1 H1 e hS Q q =>
  h1 F1 H1 e hS _ fun v F2 H2 e2 g2 r => ⟨a, r, by
    cases a with
    | false =>
      show tb σ H2 Q
      exact h2 rfl F2 H2 (e.trans e2) g2 Q fun v F3 H3 e3 g3 => q v F3 H3 (e2.trans e3) g3
    | true =>
      show Q (.bl true) H2
      exact q _ F2 H2 e2 g2 rfl⟩
theorem ev_andVM {a c : Bool} {m : Option Bool} (hc : gAnd a m = some c) (h1 : Ev K ta σ F O O1 a) (h2 : a = true → ∀ b, m = some b → Ev K tb σ F O1 O1 b) : Ev K (tAndV ta tb) σ F O O1 c := by
  unfold gAnd at hc
  cases a with
  | true =>
    have e : (true && c) = c := rfl
    rw [← e]
    exact ev_andV h1 fun ha => h2 ha c hc
  | false =>
    cases hc
    exact ev_andV (b := false) h1 fun ha => by cases ha
theorem ev_orVM {a c : Bool} {m : Option Bool} (hc : gOr a m = some c) (h1 : Ev K ta σ F O O1 a) (h2 : a = false → ∀ b, m = some b → Ev K tb σ F O1 O1 b) : Ev K (tOrV ta tb) σ F O O1 c := by
  unfold gOr at hc
  cases a with
  | false =>
    have e : (false || c) = c := rfl
    rw [← e]
    exact ev_orV h1 fun ha => h2 ha c hc
  | true =>
    cases hc
    exact ev_orV (b := false) h1 fun ha => by cases ha
theorem ev_notV {a : Bool} (h1 : Ev K ta σ F O O1 a) : Ev K (tNotV ta) σ F O O1 (!a) := fun F1 H1 e hS Q q =>
  h1 F1 H1 e hS _ fun v F2 H2 e2 g2 r => ⟨a, r, q _ F2 H2 e2 g2 rfl⟩
theorem ev_if {α : Type} [Enc α] {b : Bool} {x y : α} (h : EvT K t σ F O O1 b) (h1 : b = true → Ev K ta σ F O1 O2 x) (h2 : b = false → Ev K tb σ F O1 O2 y) : Ev K (tIf t ta tb) σ F O O2 (if b then x else y) := fun F1 H1 e hS Q q =>
  h F1 H1 e hS _ fun F2 H2 e2 g2 => by
    cases b with
    | true =>
      show ta σ H2 Q
      exact h1 rfl F2 H2 (e.trans e2) g2 Q fun v F3 H3 e3 g3 => q v F3 H3 (e2.trans e3) g3
    | false =>
      show tb σ H2 Q
      exact h2 rfl F2 H2 (e.trans e2) g2 Q fun v F3 H3 e3 g3 => q v F3 H3 (e2.trans e3) g3
theorem ev_ifM {α : Type} [Enc α] {b : Bool} {m n : Option α} {z : α} (hc : (if b then m else n) = some z) (h : EvT K t σ F O O1 b) (h1 : b = true → ∀ x, m = some x → Ev K ta σ F O1 O2 x) (h2 : b = false → ∀ x, n = some x → Ev K tb σ F O1 O2 x) :
    Ev K (tIf t ta tb) σ F O O2 z := by
  have e : (if b then z else z) = z := by cases b <;> rfl
  rw [← e]
  cases b with
  | true => exact ev_if h (fun hb => h1 hb z hc) fun hb => by cases hb
  | false => exact ev_if h (fun hb => by cases hb) fun hb => h2 hb z hc
/-- a < b < c -/
theorem ev_chain {α β γ : Type} [Enc α] [Enc β] [Enc γ] {x : α} {y : β} {z : γ} {r r' : R2} {k k' : Bool} (ha : Ev K ta σ F O O1 x) (hb : Ev K tb σ F O1 O2 y) (hr : RV K r F O2 x y k) (hc : k = true → Ev K tc σ F O2 O2 z) (hr' : RV K r' F O2 y z k') :
    Ev K (tChain r r' ta tb tc) σ F O O2 (k && k') := fun F1 H1 e hS Q q => ha F1 H1 e hS _ fun v F2 H2 e2 h2 r2 => hb F2 H2 (e.trans e2) h2 _ fun w F3 H3 e3 h3 r3 =>
  hr F3 H3 v w ((e.trans e2).trans e3) h3 (G.mono e3 r2) r3 _ fun u F4 H4 e4 h4 r4 => ⟨k, r4, by
    cases k with
    | true =>
      show tc σ H4 fun w' H5 => r' w w' H5 Q
      refine hc rfl F4 H4 (((e.trans e2).trans e3).trans e4) h4 _ fun w' F5 H5 e5 h5 r5 => ?_
      refine hr' F5 H5 w w' ((((e.trans e2).trans e3).trans e4).trans e5) h5 (G.mono (e4.trans e5) r3) r5 Q fun u' F6 H6 e6 h6 r6 => ?_
      exact q u' F6 H6 ((((e2.trans e3).trans e4).trans e5).trans e6) h6 (by rw [Bool.true_and]; exact r6)
    | false =>
      show Q (.bl false) H4
      exact q _ F4 H4 ((e2.trans e3).trans e4) h4 rfl⟩
theorem rv_lt {i j : Int} : RV K (rI0 fun i j => .bl (decide (i < j))) F O i j (decide (i < j)) := rv_I0 fun _ => rfl
theorem rv_le {i j : Int} : RV K (rI0 fun i j => .bl (decide (i ≤ j))) F O i j (decide (i ≤ j)) := rv_I0 fun _ => rfl

/-! ### lists that are read: frozen, or owned -/
def LV {γ : Type} [Enc γ] (K : FR) (F : Hp) (O : OS) (v : V) (xs : List γ) : Prop :=
  (∃ a ys, v = .ref a ∧ F a = some (.lst ys) ∧ Paired (rep K F) ys xs) ∨ ∃ l, v = .ref l ∧ (l, ownL xs) ∈ O
def Lst {α γ : Type} [Enc α] [Enc γ] (K : FR) (O : OS) (x : α) (xs : List γ) : Prop := ∀ F v, rep K F v x → LV K F O v xs
theorem LV.read {γ : Type} [Enc γ] {v : V} {xs : List γ} (h : LV K F O v xs) (hS : Hd K F O H) : ∃ p ys, v = .ref p ∧ H p = some (.lst ys) ∧ Paired (rep K F) ys xs := by
  rcases h with ⟨a, ys, rfl, h2, h3⟩ | ⟨l, rfl, hm⟩
  · exact ⟨a, ys, rfl, hS.ex _ _ h2, h3⟩
  · obtain ⟨o, h1, ys, rfl, h3⟩ := hS.get hm
    exact ⟨l, ys, rfl, h1, h3⟩
/-- an instance that is the one of lists -/
class IsEL (γ : Type) [Enc γ] (e : Enc (List γ)) : Prop where
  eq : e = encList
instance isEL {γ : Type} [Enc γ] : IsEL γ (encList) := ⟨rfl⟩
theorem lst_f {γ : Type} [Enc γ] {xs : List γ} [e : Enc (List γ)] [he : IsEL γ e] : Lst K O xs xs := by
  have h := he.eq
  subst h
  exact fun F v r => .inl r
theorem lst_o {γ : Type} [Enc γ] {xs : List γ} {l : Addr} (hm : (l, ownL xs) ∈ O) : Lst K O (Lc.mk l) xs := fun F v r => .inr ⟨l, r, hm⟩
theorem evl_len {α γ : Type} [Enc α] [Enc γ] {x : α} {xs : List γ} (h : Ev K ta σ F O O1 x) (hl : Lst K O1 x xs) : Ev K (tCB (rLen K) (tCons ta tNil)) σ F O O1 (xs.length : Int) := by
  refine ev_cb (ea_cons h ea_nil) ?_
  intro F1 H1 vs e hS r Q q
  obtain ⟨v, _, rfl, rv, rfl⟩ := r
  obtain ⟨a, ys, rfl, h2, h3⟩ := (hl _ _ rv).read hS
  exact ⟨a, ys, rfl, .inl (SqL.of h2), by rw [paired_len h3]; exact q _ F1 H1 (Same.refl _) hS rfl⟩
theorem evl_ix {α γ : Type} [Enc α] [Enc γ] {x : α} {xs : List γ} {i : Int} {z : γ} (ha : Ev K ta σ F O O1 x) (hb : Ev K tb σ F O1 O2 i) (hl : Lst K O2 x xs) (h : atI xs i = some z) : Ev K (tOp (rIxL K) ta tb) σ F O O2 z := by
  refine ev_op ha hb ?_
  intro F1 H1 v w e hS rv rw_ Q q
  obtain ⟨a, ys, rfl, h2, h3⟩ := (hl _ _ rv).read hS
  cases rw_
  obtain ⟨y, hy, ry⟩ := atI_paired h3 h
  exact ⟨a, ys, i, y, rfl, rfl, SqL.of h2, hy, q _ F1 H1 (Same.refl _) hS ry⟩
/-! flat membership -/
class Flat (α : Type) [Enc α] [DecidableEq α] where
  val : α → V
  rep_val : ∀ {K : FR} {F : Hp} {v : V} {x : α}, rep K F v x → v = val x
  flat : ∀ x, flatV (val x) = true
  eqv : ∀ x y, eqV (val x) (val y) = decide (x = y)
instance : Flat Int := ⟨.int, fun h => h, fun _ => rfl, fun x y => by show (x == y) = _; rw [Bool.beq_eq_decide_eq]⟩
instance : Flat (List Nat) := ⟨tx, fun h => h.1, fun _ => rfl, fun x y => by
  show ((⟨⟨x⟩⟩ : Str) == ⟨⟨y⟩⟩) = _
  rw [Bool.eq_iff_iff, beq_iff_eq, decide_eq_true_iff]
  exact ⟨fun h => by injection h with h1; injection h1, fun h => by rw [h]⟩⟩
theorem flat_vals {γ : Type} [Enc γ] [DecidableEq γ] [Flat γ] : ∀ {ys : List V} {xs : List γ}, Paired (rep K F) ys xs → ys = xs.map Flat.val
  | _, _, .nil => rfl
  | _, _, .cons r t => by rw [List.map_cons, ← flat_vals t, Flat.rep_val r]
/-- x in xs, as a truth value -/
def isIn {γ : Type} [DecidableEq γ] (x : γ) (xs : List γ) : Bool := decide (x ∈ xs)
theorem isIn_iff {γ : Type} [DecidableEq γ] {x : γ} {xs : List γ} : isIn x xs = true ↔ x ∈ xs := by
  unfold isIn
  rw [decide_eq_true_iff]
theorem flat_in {γ : Type} [Enc γ] [DecidableEq γ] [Flat γ] {x : γ} {xs : List γ} : inV (Flat.val x) (xs.map Flat.val) = isIn x xs := by
  unfold inV isIn
  induction xs with
  | nil => simp
  | cons y ys ih =>
    rw [List.map_cons, List.any_cons, ih, Flat.eqv]
    rw [Bool.eq_iff_iff, Bool.or_eq_true, decide_eq_true_iff, decide_eq_true_iff, decide_eq_true_iff, List.mem_cons]
    exact ⟨fun h => h.imp Eq.symm id, fun h => h.imp Eq.symm id⟩
theorem flat_all {γ : Type} [Enc γ] [DecidableEq γ] [Flat γ] {xs : List γ} : (xs.map Flat.val).all flatV = true := by
  rw [List.all_map, List.all_eq_true]
  intro x _
  exact Flat.flat x
theorem rv_in {γ α : Type} [Enc γ] [DecidableEq γ] [Flat γ] [Enc α] {x : γ} {y : α} {xs : List γ} (neg : Bool) (hl : Lst K O y xs) : RV K (rIn K neg) F O x y (if neg then !isIn x xs else isIn x xs) := by
  intro F1 H1 v w e hS rv rw_ Q q
  obtain ⟨a, ys, rfl, h2, h3⟩ := (hl _ _ rw_).read hS
  have e1 := flat_vals h3
  have e2 := Flat.rep_val rv
  subst e1 e2
  refine ⟨a, _, rfl, .inl (SqL.of h2), Flat.flat x, flat_all, ?_⟩
  rw [flat_in]
  exact q _ F1 H1 (Same.refl _) hS rfl
theorem rv_inT {γ : Type} [Enc γ] [DecidableEq γ] [Flat γ] {x : γ} {xs : Tp γ} (neg : Bool) : RV K (rIn K neg) F O x xs (if neg then !isIn x xs.l else isIn x xs.l) := by
  intro F1 H1 v w e hS rv rw_ Q q
  obtain ⟨a, ys, rfl, h2, h3⟩ := rw_
  have e1 := flat_vals h3
  have e2 := Flat.rep_val rv
  subst e1 e2
  refine ⟨a, _, rfl, .inr (same_t hS.ex h2), Flat.flat x, flat_all, ?_⟩
  rw [flat_in]
  exact q _ F1 H1 (Same.refl _) hS rfl
theorem ev_inL {γ α : Type} [Enc γ] [DecidableEq γ] [Flat γ] [Enc α] {x : γ} {y : α} {xs : List γ} (ha : Ev K ta σ F O O1 x) (hb : Ev K tb σ F O1 O2 y) (hl : Lst K O2 y xs) : Ev K (tOp (rIn K false) ta tb) σ F O O2 (isIn x xs) := ev_op ha hb (rv_in false hl)
theorem ev_niL {γ α : Type} [Enc γ] [DecidableEq γ] [Flat γ] [Enc α] {x : γ} {y : α} {xs : List γ} (ha : Ev K ta σ F O O1 x) (hb : Ev K tb σ F O1 O2 y) (hl : Lst K O2 y xs) : Ev K (tOp (rIn K true) ta tb) σ F O O2 (!isIn x xs) := ev_op ha hb (rv_in true hl)
theorem ev_inT {γ : Type} [Enc γ] [DecidableEq γ] [Flat γ] {x : γ} {xs : Tp γ} (ha : Ev K ta σ F O O1 x) (hb : Ev K tb σ F O1 O2 xs) : Ev K (tOp (rIn K false) ta tb) σ F O O2 (isIn x xs.l) := ev_op ha hb (rv_inT false)
theorem ev_niT {γ : Type} [Enc γ] [DecidableEq γ] [Flat γ] {x : γ} {xs : Tp γ} (ha : Ev K ta σ F O O1 x) (hb : Ev K tb σ F O1 O2 xs) : Ev K (tOp (rIn K true) ta tb) σ F O O2 (!isIn x xs.l) := ev_op ha hb (rv_inT true)
/-! all, any of a list of truth values -/
theorem paired_bls : ∀ {ys : List V} {xs : List Bool}, Paired (rep K F) ys xs → ys = xs.map V.bl
  | _, _, .nil => rfl
  | _, _, .cons r t => by rw [List.map_cons, ← paired_bls t, show _ = _ from r]
theorem ev_all {α : Type} [Enc α] {x : α} {xs : List Bool} (h : Ev K ta σ F O O1 x) (hl : Lst K O1 x xs) : Ev K (tCB (rAll K) (tCons ta tNil)) σ F O O1 (xs.all id) := by
  refine ev_cb (ea_cons h ea_nil) ?_
  intro F1 H1 vs e hS r Q q
  obtain ⟨v, _, rfl, rv, rfl⟩ := r
  obtain ⟨a, ys, rfl, h2, h3⟩ := (hl _ _ rv).read hS
  have e1 := paired_bls h3
  subst e1
  exact ⟨a, xs, rfl, SqL.of h2, q _ F1 H1 (Same.refl _) hS rfl⟩
theorem ev_any {α : Type} [Enc α] {x : α} {xs : List Bool} (h : Ev K ta σ F O O1 x) (hl : Lst K O1 x xs) : Ev K (tCB (rAny K) (tCons ta tNil)) σ F O O1 (xs.any id) := by
  refine ev_cb (ea_cons h ea_nil) ?_
  intro F1 H1 vs e hS r Q q
  obtain ⟨v, _, rfl, rv, rfl⟩ := r
  obtain ⟨a, ys, rfl, h2, h3⟩ := (hl _ _ rv).read hS
  have e1 := paired_bls h3
  subst e1
  exact ⟨a, xs, rfl, SqL.of h2, q _ F1 H1 (Same.refl _) hS rfl⟩
/-! builtins of ints -/
theorem ev_abs {i : Int} (h : Ev K ta σ F O O1 i) : Ev K (tCB (fun xs H Q => ∃ i, xs = [.int i] ∧ Q (.int (if i < 0 then -i else i)) H) (tCons ta tNil)) σ F O O1 (if i < 0 then -i else i) := by
  refine ev_cb (ea_cons h ea_nil) ?_
  intro F1 H1 vs e hS r Q q
  obtain ⟨v, _, rfl, rv, rfl⟩ := r
  cases rv
  exact ⟨i, rfl, q _ F1 H1 (Same.refl _) hS rfl⟩
theorem ev_intI {i : Int} (h : Ev K ta σ F O O1 i) : Ev K (tCB (fun xs H Q => (∃ i, xs = [.int i] ∧ Q (.int i) H) ∨ ∃ k, xs = [.bl k] ∧ Q (.int (if k then 1 else 0)) H) (tCons ta tNil)) σ F O O1 i := by
  refine ev_cb (ea_cons h ea_nil) ?_
  intro F1 H1 vs e hS r Q q
  obtain ⟨v, _, rfl, rv, rfl⟩ := r
  cases rv
  exact .inl ⟨i, rfl, q _ F1 H1 (Same.refl _) hS rfl⟩
theorem ev_intB {b : Bool} (h : Ev K ta σ F O O1 b) : Ev K (tCB (fun xs H Q => (∃ i, xs = [.int i] ∧ Q (.int i) H) ∨ ∃ k, xs = [.bl k] ∧ Q (.int (if k then 1 else 0)) H) (tCons ta tNil)) σ F O O1 (if b then 1 else 0 : Int) := by
  refine ev_cb (ea_cons h ea_nil) ?_
  intro F1 H1 vs e hS r Q q
  obtain ⟨v, _, rfl, rv, rfl⟩ := r
  cases rv
  exact .inr ⟨b, rfl, q _ F1 H1 (Same.refl _) hS rfl⟩
theorem ev_max2 {i j : Int} (h : Ev K ta σ F O O1 i) (h' : Ev K tb σ F O1 O2 j) : Ev K (tCB (fun xs H Q => ∃ i j, xs = [.int i, .int j] ∧ Q (.int (if j > i then j else i)) H) (tCons ta (tCons tb tNil))) σ F O O2 (if j > i then j else i) := by
  refine ev_cb (ea_cons h (ea_cons h' ea_nil)) ?_
  intro F1 H1 vs e hS r Q q
  obtain ⟨v, _, rfl, rv, w, _, rfl, rw_, rfl⟩ := r
  cases rv
  cases rw_
  exact ⟨i, j, rfl, q _ F1 H1 (Same.refl _) hS rfl⟩
theorem ev_neg {i : Int} (h : Ev K ta σ F O O1 i) : Ev K (tUn (rU fun i => .int (-i)) ta) σ F O O1 (-i) := fun F1 H1 e hS Q q =>
  h F1 H1 e hS _ fun v F2 H2 e2 h2 r => ⟨i, r, q _ F2 H2 e2 h2 rfl⟩

/-! ### slices -/
def EvO (K : FR) (to : TO) (σ : L2.St) (F : Hp) (O O' : OS) (o : Option Int) : Prop :=
  ∀ F1 H1, Same F F1 → Hd K F1 O H1 → ∀ Q : Option Int → Hp → Prop, (∀ F2 H2, Same F1 F2 → Hd K F2 O' H2 → Q o H2) → to σ H1 Q
theorem eo_none : EvO K tNoPart σ F O O none := fun F1 H1 e hS Q q => q F1 H1 (Same.refl _) hS
theorem eo_some {i : Int} (h : Ev K te σ F O O1 i) : EvO K (tPart te) σ F O O1 (some i) := fun F1 H1 e hS Q q => h F1 H1 e hS _ fun v F2 H2 e2 h2 r => ⟨i, r, q F2 H2 e2 h2⟩
def cut {α : Type} (xs : List α) (lo hi : Option Int) : List α := (xs.drop (HT.sIx xs.length 0 lo)).take (HT.sIx xs.length xs.length hi - HT.sIx xs.length 0 lo)
theorem cut_len {α : Type} (xs : List α) (lo hi : Option Int) : (cut xs lo hi).length ≤ xs.length := by
  unfold cut
  rw [List.length_take, List.length_drop]
  omega
theorem cut_mem {α : Type} {xs : List α} {lo hi : Option Int} {x : α} (h : x ∈ cut xs lo hi) : x ∈ xs := List.mem_of_mem_drop (List.mem_of_mem_take h)
theorem paired_take {α β : Type} {R : α → β → Prop} : ∀ {l : List α} {m : List β} (n : Nat), Paired R l m → Paired R (l.take n) (m.take n)
  | _, _, 0, _ => .nil
  | _, _, _ + 1, .nil => .nil
  | _, _, n + 1, .cons r t => .cons r (paired_take n t)
theorem paired_drop {α β : Type} {R : α → β → Prop} : ∀ {l : List α} {m : List β} (n : Nat), Paired R l m → Paired R (l.drop n) (m.drop n)
  | _, _, 0, r => r
  | _, _, _ + 1, .nil => .nil
  | _, _, n + 1, .cons _ t => paired_drop n t
theorem paired_cut {α β : Type} {R : α → β → Prop} {l : List α} {m : List β} (lo hi : Option Int) (h : Paired R l m) : Paired R (cut l lo hi) (cut m lo hi) := by
  unfold cut
  rw [paired_len h]
  exact paired_take _ (paired_drop _ h)
theorem paired_app {α β : Type} {R : α → β → Prop} : ∀ {l l' : List α} {m m' : List β}, Paired R l m → Paired R l' m' → Paired R (l ++ l') (m ++ m')
  | _, _, _, _, .nil, s => s
  | _, _, _, _, .cons r t, s => .cons r (paired_app t s)
theorem ev_slS {tl th : TO} {x : Tx} {lo hi : Option Int} (h : Ev K te σ F O O1 x) (h1 : EvO K tl σ F O1 O2 lo) (h2 : EvO K th σ F O2 O3 hi) : Ev K (tSl rSlS te tl th) σ F O O3 (cut x lo hi) := fun F1 H1 e hS Q q =>
  h F1 H1 e hS _ fun v F2 H2 e2 g2 r2 => h1 F2 H2 (e.trans e2) g2 _ fun F3 H3 e3 g3 => h2 F3 H3 ((e.trans e2).trans e3) g3 _ fun F4 H4 e4 g4 => by
    obtain ⟨rfl, hl⟩ := r2
    exact ⟨⟨⟨x⟩⟩, rfl, ln_size hl.1, q _ F4 H4 ((e2.trans e3).trans e4) g4 ⟨rfl, TxOk.mk' (Nat.le_trans (cut_len _ _ _) hl.1) fun c hc => hl.lt c (cut_mem hc)⟩⟩
theorem evn_sl {α γ : Type} [Enc α] [Enc γ] {tl th : TO} {x : α} {xs : List γ} {lo hi : Option Int} (h : Ev K te σ F O O1 x) (h1 : EvO K tl σ F O1 O2 lo) (h2 : EvO K th σ F O2 O3 hi) (hl : Lst K O3 x xs) : EvN K (tSl (rSlL K) te tl th) σ F O O3 (ownL (cut xs lo hi)) := fun F1 H1 e hS Q q =>
  h F1 H1 e hS _ fun v F2 H2 e2 g2 r2 => h1 F2 H2 (e.trans e2) g2 _ fun F3 H3 e3 g3 => h2 F3 H3 ((e.trans e2).trans e3) g3 _ fun F4 H4 e4 g4 => by
    obtain ⟨a, ys, rfl, z2, z3⟩ := (hl _ _ (G.mono (e3.trans e4) r2)).read g4
    exact ⟨a, ys, rfl, SqL.of z2, fun p hp => q p F4 _ ((e2.trans e3).trans e4) (g4.new hp ⟨_, rfl, paired_cut lo hi z3⟩)⟩
/-! ### displays -/
def EvAs (K : FR) (ta : TA) (σ : L2.St) (F : Hp) (O O' : OS) {α : Type} [Enc α] (xs : List α) : Prop :=
  ∀ F1 H1, Same F F1 → Hd K F1 O H1 → ∀ Q : List V → Hp → Prop, (∀ vs F2 H2, Same F1 F2 → Hd K F2 O' H2 → Paired (rep K F2) vs xs → Q vs H2) → ta σ H1 Q
theorem eas_nil {α : Type} [Enc α] : EvAs K tNil σ F O O ([] : List α) := fun F1 H1 e hS Q q => q [] F1 H1 (Same.refl _) hS .nil
theorem eas_cons {α : Type} [Enc α] {x : α} {xs : List α} {tr : TA} (h : Ev K ta σ F O O1 x) (hr : EvAs K tr σ F O1 O2 xs) : EvAs K (tCons ta tr) σ F O O2 (x :: xs) := fun F1 H1 e hS Q q =>
  h F1 H1 e hS _ fun v F2 H2 e2 h2 r2 => hr F2 H2 (e.trans e2) h2 _ fun vs F3 H3 e3 h3 r3 => q (v :: vs) F3 H3 (e2.trans e3) h3 (.cons (G.mono e3 r2) r3)
theorem evn_lst {α : Type} [Enc α] {xs : List α} {ta : TA} (h : EvAs K ta σ F O O1 xs) (hl : xs.length ≤ LN) : EvN K (tLst ta) σ F O O1 (ownL xs) := fun F1 H1 e hS Q q =>
  h F1 H1 e hS _ fun vs F2 H2 e2 h2 r2 => ⟨by rw [paired_len r2]; exact ln_size hl, fun p hp => q p F2 _ e2 (h2.new hp ⟨vs, rfl, r2⟩)⟩
theorem ev_tp {α : Type} [Enc α] {xs : List α} {ta : TA} (h : EvAs K ta σ F O O1 xs) (hl : xs.length ≤ LN) : Ev K (tTup ta) σ F O O1 (Tp.mk xs) := fun F1 H1 e hS Q q =>
  h F1 H1 e hS _ fun vs F2 H2 e2 h2 r2 => ⟨by rw [paired_len r2]; exact ln_size hl, fun p hp => by
    have e3 : Same F2 (upd F2 p (.tup vs)) := same_upd (h2.free hp)
    exact q _ _ _ (e2.trans e3) (h2.frz hp) ⟨p, vs, rfl, .inl (.inl upd_same), pmono e3 r2⟩⟩
theorem ev_pair {α β : Type} [Enc α] [Enc β] {x : α} {y : β} (h : Ev K ta σ F O O1 x) (h' : Ev K tb σ F O1 O2 y) : Ev K (tTup (tCons ta (tCons tb tNil))) σ F O O2 (x, y) := fun F1 H1 e hS Q q =>
  h F1 H1 e hS _ fun v F2 H2 e2 h2 r2 => h' F2 H2 (e.trans e2) h2 _ fun w F3 H3 e3 h3 r3 => ⟨by show 2 ≤ sizeLine; decide, fun p hp => by
    have e4 : Same F3 (upd F3 p (.tup [v, w])) := same_upd (h3.free hp)
    exact q _ _ _ ((e2.trans e3).trans e4) (h3.frz hp) ⟨p, v, w, rfl, .inl (.inl upd_same), G.mono (e3.trans e4) r2, G.mono e4 r3⟩⟩
/-! list + list -/
def catL {α : Type} (xs ys : List α) : Option (List α) := if xs.length + ys.length ≤ LN then some (xs ++ ys) else none
theorem evn_cat {α β γ : Type} [Enc α] [Enc β] [Enc γ] {x : α} {y : β} {xs ys zs : List γ} (ha : Ev K ta σ F O O1 x) (hb : Ev K tb σ F O1 O2 y) (h1 : Lst K O2 x xs) (h2 : Lst K O2 y ys) (h : catL xs ys = some zs) : EvN K (tOp rCat ta tb) σ F O O2 (ownL zs) := fun F1 H1 e hS Q q =>
  ha F1 H1 e hS _ fun v F2 H2 e2 g2 r2 => hb F2 H2 (e.trans e2) g2 _ fun w F3 H3 e3 g3 r3 => by
    unfold catL at h
    split at h
    · cases h
      rename_i hz
      obtain ⟨a, vs, rfl, a2, a3⟩ := (h1 _ _ (G.mono e3 r2)).read g3
      obtain ⟨b, ws, rfl, b2, b3⟩ := (h2 _ _ r3).read g3
      refine ⟨a, b, vs, ws, rfl, rfl, a2, b2, ?_, fun p hp => q p F3 _ (e2.trans e3) (g3.new hp ⟨_, rfl, paired_app a3 b3⟩)⟩
      rw [paired_len a3, paired_len b3]
      exact ln_size hz
    · cases h
end
end G

namespace G
open PySem PySem.Spec PyProof.Rows L2
/-! ### promises -/
section
variable {α β γ S : Type} [EncA α] [Enc β] [Enc γ]
def spPure (K : FR) (m : α → Option β) : Sp := fun vs H Q _ => ∃ F O x r, repA K F vs x ∧ Hd K F O H ∧ m x = some r ∧ ∀ v F' H', Same F F' → Hd K F' O H' → rep K F' v r → Q v H'
/-- hands back a new list -/
def spNew (K : FR) (m : α → Option (List γ)) : Sp := fun vs H Q _ => ∃ F O x r, repA K F vs x ∧ Hd K F O H ∧ m x = some r ∧ ∀ l F' H', Same F F' → Hd K F' ((l, ownL r) :: O) H' → Q (.ref l) H'
/-- changes one owned object -/
def spIO (K : FR) (loc : α → Addr) (od : S → OD) (m : α → S → Option (β × S)) : Sp := fun vs H Q _ => ∃ F R x s r, repA K F vs x ∧ Hd K F ((loc x, od s) :: R) H ∧ m x s = some r ∧ ∀ v F' H', Same F F' → Hd K F' ((loc x, od r.2) :: R) H' → rep K F' v r.1 → Q v H'
def spIONew (K : FR) (loc : α → Addr) (od : S → OD) (m : α → S → Option (List γ × S)) : Sp := fun vs H Q _ => ∃ F R x s r, repA K F vs x ∧ Hd K F ((loc x, od s) :: R) H ∧ m x s = some r ∧ ∀ l F' H', Same F F' → Hd K F' ((l, ownL r.1) :: (loc x, od r.2) :: R) H' → Q (.ref l) H'
variable {K : FR} {σ : L2.St} {F F' H : Hp} {O O1 O2 O3 : OS} {ta : TA} {x : α} {E : XK}
theorem ev_call {m : α → Option β} {r : β} (h : EvA K ta σ F O O1 x) (hm : m x = some r) : Ev K (tCall (spPure K m) [] E ta) σ F O O1 r := fun F1 H1 e hS Q q =>
  h F1 H1 e hS _ fun vs F2 H2 e2 h2 r2 => ⟨F2, O1, x, r, by rw [List.append_nil]; exact r2, h2, hm, fun v F3 H3 e3 => q v F3 H3 (e2.trans e3)⟩
theorem evn_call {m : α → Option (List γ)} {r : List γ} (h : EvA K ta σ F O O1 x) (hm : m x = some r) : EvN K (tCall (spNew K m) [] E ta) σ F O O1 (ownL r) := fun F1 H1 e hS Q q =>
  h F1 H1 e hS _ fun vs F2 H2 e2 h2 r2 => ⟨F2, O1, x, r, by rw [List.append_nil]; exact r2, h2, hm, fun v F3 H3 e3 => q v F3 H3 (e2.trans e3)⟩
theorem perm_get : ∀ {O : OS} {i : Nat} {p : Addr × OD}, O[i]? = some p → (p :: O.eraseIdx i).Perm O
  | [], i, p, h => by simp at h
  | x :: O, 0, p, h => by
    cases (Option.some.inj h)
    exact List.Perm.refl _
  | x :: O, i + 1, p, h => (List.Perm.swap x p _).trans ((perm_get (O := O) (i := i) h).cons x)
theorem perm_set : ∀ {O : OS} {i : Nat} {p q : Addr × OD}, O[i]? = some p → (O.set i q).Perm (q :: O.eraseIdx i)
  | [], i, p, q, h => by simp at h
  | x :: O, 0, p, q, h => List.Perm.refl _
  | x :: O, i + 1, p, q, h => ((perm_set (O := O) (i := i) h).cons x).trans (List.Perm.swap q x _)
theorem ev_callIO {loc : α → Addr} {od : S → OD} {m : α → S → Option (β × S)} {s : S} {r : β × S} (i : Nat) (h : EvA K ta σ F O O1 x) (hi : O1[i]? = some (loc x, od s)) (hm : m x s = some r) :
    Ev K (tCall (spIO K loc od m) [] E ta) σ F O (O1.set i (loc x, od r.2)) r.1 := fun F1 H1 e hS Q q =>
  h F1 H1 e hS _ fun vs F2 H2 e2 h2 r2 => ⟨F2, O1.eraseIdx i, x, s, r, by rw [List.append_nil]; exact r2, h2.perm (perm_get hi), hm, fun v F3 H3 e3 h3 => q v F3 H3 (e2.trans e3) (h3.perm (perm_set hi))⟩
theorem evn_callIO {loc : α → Addr} {od : S → OD} {m : α → S → Option (List γ × S)} {s : S} {r : List γ × S} (i : Nat) (h : EvA K ta σ F O O1 x) (hi : O1[i]? = some (loc x, od s)) (hm : m x s = some r) :
    EvN K (tCall (spIONew K loc od m) [] E ta) σ F O (O1.set i (loc x, od r.2)) (ownL r.1) := fun F1 H1 e hS Q q =>
  h F1 H1 e hS _ fun vs F2 H2 e2 h2 r2 => ⟨F2, O1.eraseIdx i, x, s, r, by rw [List.append_nil]; exact r2, h2.perm (perm_get hi), hm, fun v F3 H3 e3 h3 => q v F3 H3 (e2.trans e3) (h3.perm ((perm_set hi).cons _))⟩
end

/-! ### statements -/
section
variable {K : FR} {σ : L2.St} {F F' H : Hp} {O O1 O2 O3 : OS} {ta tb tc te : TE} {t u : TT} {D : Ends} {tz tu tw : TS}
theorem s_end (h : D.nx σ H) : tNext D σ H := h
theorem q_asg {α : Type} [Enc α] {x : α} {i : Nat} {σ' : V → L2.St} (hS : Hd K F O H) (h : Ev K te σ F O O1 x) (hσ : ∀ v, σ.set i (some v) = σ' v) (k : ∀ v F1 H1, Same F F1 → Hd K F1 O1 H1 → rep K F1 v x → tz D (σ' v) H1) :
    tSeq (tAsg te (gName i)) tz D σ H := h F H (Same.refl _) hS _ fun v F1 H1 e h1 r => by
  show tz D (σ.set i (some v)) H1
  rw [hσ v]
  exact k v F1 H1 e h1 r
theorem q_asgN {d : OD} {i : Nat} {σ' : V → L2.St} (hS : Hd K F O H) (h : EvN K te σ F O O1 d) (hσ : ∀ v, σ.set i (some v) = σ' v) (k : ∀ l F1 H1, Same F F1 → Hd K F1 ((l, d) :: O1) H1 → tz D (σ' (.ref l)) H1) :
    tSeq (tAsg te (gName i)) tz D σ H := h F H (Same.refl _) hS _ fun l F1 H1 e h1 => by
  show tz D (σ.set i (some (.ref l))) H1
  rw [hσ (.ref l)]
  exact k l F1 H1 e h1
theorem q_drop {α : Type} [Enc α] {x : α} (hS : Hd K F O H) (h : Ev K te σ F O O1 x) (k : ∀ F1 H1, Same F F1 → Hd K F1 O1 H1 → tz D σ H1) : tSeq (tDrop te) tz D σ H := h F H (Same.refl _) hS _ fun v F1 H1 e h1 r => k F1 H1 e h1
theorem q_ret {α : Type} [Enc α] {x : α} (hS : Hd K F O H) (h : Ev K te σ F O O1 x) (k : ∀ v F1 H1, Same F F1 → Hd K F1 O1 H1 → rep K F1 v x → D.rt v H1) : tSeq (tRet te) tz D σ H := h F H (Same.refl _) hS _ fun v F1 H1 e h1 r => k v F1 H1 e h1 r
theorem q_retN {d : OD} (hS : Hd K F O H) (h : EvN K te σ F O O1 d) (k : ∀ l F1 H1, Same F F1 → Hd K F1 ((l, d) :: O1) H1 → D.rt (.ref l) H1) : tSeq (tRet te) tz D σ H := h F H (Same.refl _) hS _ fun l F1 H1 e h1 => k l F1 H1 e h1
theorem q_if {b : Bool} (hS : Hd K F O H) (h : EvT K t σ F O O1 b) (h1 : b = true → ∀ F1 H1, Same F F1 → Hd K F1 O1 H1 → tu { D with nx := tz D } σ H1) (h2 : b = false → ∀ F1 H1, Same F F1 → Hd K F1 O1 H1 → tw { D with nx := tz D } σ H1) :
    tSeq (tIfS t tu tw) tz D σ H := h F H (Same.refl _) hS _ fun F1 H1 e g => by
  cases b with
  | true =>
    show tu { D with nx := tz D } σ H1
    exact h1 rfl F1 H1 e g
  | false =>
    show tw { D with nx := tz D } σ H1
    exact h2 rfl F1 H1 e g
/-- an if whose ways meet: Mid -/
theorem q_ifc {b : Bool} (Mid : L2.St → Hp → Prop) (hS : Hd K F O H) (h : EvT K t σ F O O1 b) (h1 : b = true → ∀ F1 H1, Same F F1 → Hd K F1 O1 H1 → tu { D with nx := Mid } σ H1) (h2 : b = false → ∀ F1 H1, Same F F1 → Hd K F1 O1 H1 → tw { D with nx := Mid } σ H1)
    (k : ∀ σ' H', Mid σ' H' → tz D σ' H') : Evl.tCut (tIfS t tu tw) tz D σ H := ⟨Mid, h F H (Same.refl _) hS _ fun F1 H1 e g => by
  cases b with
  | true =>
    show tu { D with nx := Mid } σ H1
    exact h1 rfl F1 H1 e g
  | false =>
    show tw { D with nx := Mid } σ H1
    exact h2 rfl F1 H1 e g, k⟩
theorem q_aug {i : Nat} {f : Int → Int → Int} {a b : Int} {σ' : L2.St} (hS : Hd K F O H) (hx : σ[i]? = some (some (.int a))) (h : Ev K te σ F O O1 b) (hσ : σ.set i (some (.int (f a b))) = σ') (k : ∀ F1 H1, Same F F1 → Hd K F1 O1 H1 → tz D σ' H1) :
    tSeq (tAug i te (ipI f)) tz D σ H := ⟨.int a, hx, h F H (Same.refl _) hS _ fun v F1 H1 e h1 r => ⟨a, b, rfl, r, by
  show tz D (σ.set i (some (.int (f a b)))) H1
  rw [hσ]
  exact k F1 H1 e h1⟩⟩
def appL {α : Type} (xs : List α) (x : α) : Option (List α) := if xs.length < LN then some (xs ++ [x]) else none
theorem paired_snoc {α β : Type} {R : α → β → Prop} {l : List α} {m : List β} {x : α} {y : β} (h : Paired R l m) (r : R x y) : Paired R (l ++ [x]) (m ++ [y]) := paired_app h (.cons r .nil)
/-- xs.append(e) -/
theorem q_app {γ : Type} [Enc γ] {x : γ} {xs xs0 ys : List γ} {l : Addr} (i : Nat) (hS : Hd K F O H) (ha : Ev K ta σ F O O (Lc.mk l)) (hm : (l, ownL xs0) ∈ O) (h : Ev K te σ F O O1 x) (hi : O1[i]? = some (l, ownL xs)) (hz : appL xs x = some ys)
    (k : ∀ F1 H1, Same F F1 → Hd K F1 (O1.set i (l, ownL ys)) H1 → tz D σ H1) : tSeq (tDrop (tBM K "list" rAppend ta (tCons te tNil))) tz D σ H := ha F H (Same.refl _) hS _ fun v F1 H1 e1 g1 r1 => by
  cases r1
  obtain ⟨o, a1, zs, rfl, a3⟩ := g1.get hm
  refine ⟨.inl ⟨rfl, zs, SqL.of a1⟩, h F1 H1 e1 g1 _ fun w F2 H2 e2 g2 r2 => ?_⟩
  obtain ⟨o, b1, us, rfl, b3⟩ := g2.get (List.mem_of_getElem? hi)
  unfold appL at hz
  split at hz
  · cases hz
    rename_i hlt
    refine ⟨l, us, w, rfl, rfl, b1, ln_lt (by rw [paired_len b3]; exact hlt), ?_⟩
    exact k F2 _ (e1.trans e2) (g2.set hi ⟨_, rfl, paired_snoc b3 r2⟩)
  · cases hz
def setI {α : Type} (xs : List α) (i : Int) (x : α) : Option (List α) := (ixN xs.length i).map fun j => xs.set j x
theorem paired_set {α β : Type} {R : α → β → Prop} {x : α} {y : β} (r : R x y) : ∀ {l : List α} {m : List β} (j : Nat), Paired R l m → Paired R (l.set j x) (m.set j y)
  | _, _, _, .nil => .nil
  | _, _, 0, .cons _ t => .cons r t
  | _, _, j + 1, .cons q t => .cons q (paired_set r j t)
/-- xs[i] = e -/
theorem q_set {γ : Type} [Enc γ] {x : γ} {xs ys : List γ} {l : Addr} {z : Int} (i : Nat) (hS : Hd K F O H) (h : Ev K te σ F O O1 x) (ha : Ev K ta σ F O1 O1 (Lc.mk l)) (hb : Ev K tb σ F O1 O2 z) (hi : O2[i]? = some (l, ownL xs)) (hz : setI xs z x = some ys)
    (k : ∀ F1 H1, Same F F1 → Hd K F1 (O2.set i (l, ownL ys)) H1 → tz D σ H1) : tSeq (tAsg te (gSub ta tb rSetL)) tz D σ H := h F H (Same.refl _) hS _ fun v F1 H1 e1 g1 r1 => ha F1 H1 e1 g1 _ fun w F2 H2 e2 g2 r2 => hb F2 H2 (e1.trans e2) g2 _ fun w3 F3 H3 e3 g3 r3 => by
  cases r2
  cases r3
  obtain ⟨o, b1, us, rfl, b3⟩ := g3.get (List.mem_of_getElem? hi)
  obtain ⟨j, hj, rfl⟩ := Option.map_eq_some_iff.mp hz
  exact ⟨l, us, z, j, rfl, rfl, b1, by rw [paired_len b3]; exact hj, k F3 _ ((e1.trans e2).trans e3) (g3.set hi ⟨_, rfl, paired_set (G.mono (e2.trans e3) r1) j b3⟩)⟩
/-- xs.pop() -/
def popL {α : Type} (xs : List α) : Option (α × List α) := (xs[xs.length - 1]?).map fun x => (x, xs.dropLast)
theorem paired_dropLast {α β : Type} {R : α → β → Prop} : ∀ {l : List α} {m : List β}, Paired R l m → Paired R l.dropLast m.dropLast
  | _, _, .nil => .nil
  | _, _, .cons _ .nil => .nil
  | _, _, .cons r (.cons r2 t) => .cons r (paired_dropLast (.cons r2 t))
theorem ev_pop {γ : Type} [Enc γ] {xs : List γ} {p : γ × List γ} {l : Addr} (i : Nat) (ha : Ev K ta σ F O O1 (Lc.mk l)) (hi : O1[i]? = some (l, ownL xs)) (hz : popL xs = some p) : Ev K (tBM0 K "list" rPop ta) σ F O (O1.set i (l, ownL p.2)) p.1 := fun F1 H1 e hS Q q =>
  ha F1 H1 e hS _ fun v F2 H2 e2 g2 r2 => by
    cases r2
    obtain ⟨o, b1, us, rfl, b3⟩ := g2.get (List.mem_of_getElem? hi)
    obtain ⟨x, hx, rfl⟩ := Option.map_eq_some_iff.mp hz
    rw [← paired_len b3] at hx
    obtain ⟨y, hy, ry⟩ := paired_get b3 hx
    exact ⟨.inl ⟨rfl, us, SqL.of b1⟩, l, us, y, rfl, rfl, b1, hy, q y F2 _ e2 (g2.set hi ⟨_, rfl, paired_dropLast b3⟩) ry⟩
end

/-! ### loops -/
inductive Ctl (S R : Type) where
  | nx (s : S)
  | bk (s : S)
  | rt (r : R)
def forC {α S R : Type} (body : S → α → Option (Ctl S R)) : List α → S → Option (Ctl S R)
  | [], s => some (.nx s)
  | x :: xs, s => match body s x with
    | none => none
    | some (.nx s') => forC body xs s'
    | some (.bk s') => some (.bk s')
    | some (.rt r) => some (.rt r)
def forS {α S : Type} (body : S → α → Option S) : List α → S → Option S
  | [], s => some s
  | x :: xs, s => (body s x).bind fun s' => forS body xs s'
theorem forS_ctl {α S : Type} {body : S → α → Option S} : ∀ {xs : List α} {s s' : S}, forS body xs s = some s' → forC (R := Unit) (fun s x => (body s x).map Ctl.nx) xs s = some (.nx s')
  | [], s, s', h => by
    cases h
    rfl
  | x :: xs, s, s', h => by
    unfold forS at h
    unfold forC
    cases q : body s x with
    | none =>
      rw [q] at h
      cases h
    | some z =>
      rw [q] at h
      exact forS_ctl (xs := xs) h
/-- what is wanted of a body's end -/
def CtlPost {S R : Type} [Enc R] (K : FR) (F : Hp) (own : S → OS) (I : S → Hp → L2.St → Prop) (OR : OS) (D : Ends) : Ctl S R → Prop
  | .nx s => ∀ F' σ' H', Same F F' → Hd K F' (own s) H' → I s F' σ' → D.nx σ' H'
  | .bk s => ∀ F' σ' H', Same F F' → Hd K F' (own s) H' → I s F' σ' → D.bk σ' H'
  | .rt r => ∀ v F' H', Same F F' → Hd K F' OR H' → rep K F' v r → D.rt v H'
/-- .. of a loop's end -/
def CtlEnd {S R : Type} [Enc R] (K : FR) (F : Hp) (own : S → OS) (I : S → Hp → L2.St → Prop) (OR : OS) (D : Ends) : Ctl S R → Prop
  | .nx s => ∀ F' σ' H', Same F F' → Hd K F' (own s) H' → I s F' σ' → D.nx σ' H'
  | .bk s => ∀ F' σ' H', Same F F' → Hd K F' (own s) H' → I s F' σ' → D.nx σ' H'
  | .rt r => ∀ v F' H', Same F F' → Hd K F' OR H' → rep K F' v r → D.rt v H'
structure Src {α : Type} [Enc α] (K : FR) (J : It) (F2 : Hp) (P : OS → Prop) (xs : List α) : Prop where
  goes : ∀ i H F' O', i < xs.length → Same F2 F' → Hd K F' O' H → P O' → J.go i H
  stops : ∀ H F' O', Same F2 F' → Hd K F' O' H → P O' → J.stop xs.length H
  yld : ∀ i H v H' F' O', i < xs.length → Same F2 F' → Hd K F' O' H → P O' → J.yld i H v H' → ∃ F'' x, xs[i]? = some x ∧ Same F' F'' ∧ Hd K F'' O' H' ∧ rep K F'' v x
def EvI {α : Type} [Enc α] (K : FR) (wi : TI) (σ : L2.St) (F : Hp) (O O' : OS) (P : OS → Prop) (xs : List α) : Prop :=
  ∀ F1 H1, Same F F1 → Hd K F1 O H1 → ∀ R : It → Hp → Prop, (∀ J F2 H2, Same F1 F2 → Hd K F2 O' H2 → Src K J F2 P xs → R J H2) → wi σ H1 R
section
variable {K : FR} {σ : L2.St} {F F' H : Hp} {O O1 O2 O3 : OS} {ta tb tc te tl : TE} {t : TT} {D : Ends} {tz tu tw : TS}
theorem ei_list {α γ : Type} [Enc α] [Enc γ] {x : α} {xs : List γ} (h : Ev K tl σ F O O1 x) (h0 : Lst K O1 x xs) : EvI K (iList K tl) σ F O O1 (fun O' => Lst K O' x xs) xs := fun F1 H1 e hS R q =>
  h F1 H1 e hS _ fun v F2 H2 e2 g2 r2 => by
    obtain ⟨a, ys, rfl, _, _⟩ := (h0 _ _ r2).read g2
    have rd : ∀ H' F' O', Same F2 F' → Hd K F' O' H' → Lst K O' x xs → ∃ ys, H' a = some (.lst ys) ∧ Paired (rep K F') ys xs := fun H' F' O' e' g' p' => by
      obtain ⟨a', ys', ea, h1, h2⟩ := (p' _ _ (G.mono e' r2)).read g'
      cases ea
      exact ⟨ys', h1, h2⟩
    obtain ⟨ys, h1, h2⟩ := rd H2 F2 O1 (Same.refl _) g2 h0
    refine ⟨a, rfl, ⟨ys, SqL.of h1⟩, q _ F2 H2 e2 g2 ⟨fun i H' F' O' hi e' g' p' => ?_, fun H' F' O' e' g' p' => ?_, fun i H' v H'' F' O' hi e' g' p' hy => ?_⟩⟩
    · obtain ⟨ys, h1, h2⟩ := rd H' F' O' e' g' p'
      have hl := paired_len h2
      exact ⟨ys, ys[i], SqL.of h1, List.getElem?_eq_getElem _⟩
    · obtain ⟨ys, h1, h2⟩ := rd H' F' O' e' g' p'
      exact ⟨ys, SqL.of h1, Nat.le_of_eq (paired_len h2)⟩
    · obtain ⟨ys, h1, h2⟩ := rd H' F' O' e' g' p'
      obtain ⟨rfl, hv⟩ := hy
      obtain ⟨y, hy, ry⟩ := paired_get h2 (List.getElem?_eq_getElem hi)
      have ev := hv ys (SqL.of h1)
      rw [hy] at ev
      cases ev
      exact ⟨F', xs[i], List.getElem?_eq_getElem hi, Same.refl _, g', ry⟩
theorem ei_tup {γ : Type} [Enc γ] {xs : Tp γ} (h : Ev K tl σ F O O1 xs) : EvI K (iTup K tl) σ F O O1 (fun _ => True) xs.l := fun F1 H1 e hS R q =>
  h F1 H1 e hS _ fun v F2 H2 e2 g2 r2 => by
    obtain ⟨a, ys, rfl, h1, h2⟩ := r2
    have hl := paired_len h2
    refine ⟨a, rfl, ⟨ys, same_t g2.ex h1⟩, q _ F2 H2 e2 g2 ⟨fun i H' F' O' hi e' g' p' => ⟨ys, ys[i], same_t (e'.trans g'.ex) h1, List.getElem?_eq_getElem _⟩, fun H' F' O' e' g' p' => ⟨ys, same_t (e'.trans g'.ex) h1, Nat.le_of_eq hl⟩, fun i H' v H'' F' O' hi e' g' p' hy => ?_⟩⟩
    obtain ⟨rfl, hv⟩ := hy
    obtain ⟨y, hy, ry⟩ := paired_get h2 (List.getElem?_eq_getElem hi)
    have ev := hv ys (same_t (e'.trans g'.ex) h1)
    rw [hy] at ev
    cases ev
    exact ⟨F', xs.l[i], List.getElem?_eq_getElem hi, Same.refl _, g', G.mono e' ry⟩
theorem ei_scr {xs : Scr} (h : Ev K tl σ F O O1 xs) : EvI K (iList K tl) σ F O O1 (fun _ => True) xs.l := fun F1 H1 e hS R q =>
  h F1 H1 e hS _ fun v F2 H2 e2 g2 r2 => by
    obtain ⟨a, rfl, h1⟩ := r2
    refine ⟨a, rfl, ⟨_, g2.ex.seq h1⟩, q _ F2 H2 e2 g2 ⟨fun i H' F' O' hi e' g' p' => ⟨_, V.int xs.l[i], (e'.trans g'.ex).seq h1, by rw [List.getElem?_map, List.getElem?_eq_getElem hi]; rfl⟩, fun H' F' O' e' g' p' => ⟨_, (e'.trans g'.ex).seq h1, Nat.le_of_eq (List.length_map _)⟩, fun i H' v H'' F' O' hi e' g' p' hy => ?_⟩⟩
    obtain ⟨rfl, hv⟩ := hy
    have ev := hv _ ((e'.trans g'.ex).seq h1)
    rw [List.getElem?_map, List.getElem?_eq_getElem hi] at ev
    cases ev
    exact ⟨F', xs.l[i], List.getElem?_eq_getElem hi, Same.refl _, g', rfl⟩
theorem ei_str {x : Tx} (h : Ev K tl σ F O O1 x) : EvI K (iStr tl) σ F O O1 (fun _ => True) (x.map fun c => [c]) := fun F1 H1 e hS R q =>
  h F1 H1 e hS _ fun v F2 H2 e2 g2 r2 => by
    obtain ⟨rfl, hl⟩ := r2
    refine ⟨⟨⟨x⟩⟩, rfl, q _ F2 H2 e2 g2 ⟨fun i H' F' O' hi e' g' p' => ?_, fun H' F' O' e' g' p' => ?_, fun i H' v H'' F' O' hi e' g' p' hy => ?_⟩⟩
    · rw [List.length_map] at hi
      exact hi
    · show x.length ≤ (x.map _).length
      rw [List.length_map]
      exact Nat.le_refl _
    · obtain ⟨rfl, c, hc, rfl⟩ := hy
      have hc' : x[i]? = some c := by
        rw [← List.getElem?_toArray]
        exact hc
      exact ⟨F', [c], by rw [List.getElem?_map, hc']; rfl, Same.refl _, g', rfl, TxOk.mk' (by simp [LN]) fun d hd => by
        rw [List.mem_singleton.mp hd]
        exact hl.lt c (List.mem_of_getElem? hc')⟩
def rngI (lo : Int) (n : Nat) : List Int := (List.range n).map fun i => lo + (i : Nat)
def rng1 (n : Int) : Option (List Int) := if -(2 ^ 62) ≤ n ∧ n < 2 ^ 62 then some (rngI 0 n.toNat) else none
def rng2 (a b : Int) : Option (List Int) := if -(2 ^ 62) ≤ a ∧ a < 2 ^ 62 ∧ -(2 ^ 62) ≤ b ∧ b < 2 ^ 62 then some (rngI a (b - a).toNat) else none
theorem src_rng {lo : Int} {n : Nat} : Src K (Itr lo n) F (fun _ => True) (rngI lo n) := by
  have hl : (rngI lo n).length = n := by
    unfold rngI
    rw [List.length_map, List.length_range]
  refine ⟨fun i H' F' O' hi e' g' p' => by rw [hl] at hi; exact hi, fun H' F' O' e' g' p' => by rw [hl]; exact Nat.le_refl _, fun i H' v H'' F' O' hi e' g' p' hy => ?_⟩
  obtain ⟨rfl, rfl⟩ := hy
  rw [hl] at hi
  exact ⟨F', lo + i, by unfold rngI; rw [List.getElem?_map, List.getElem?_range hi]; rfl, Same.refl _, g', rfl⟩
theorem ei_rng1 {ta : TA} {n : Int} {xs : List Int} (h : EvA K ta σ F O O1 (n, ())) (hx : rng1 n = some xs) : EvI K (iRng1 ta) σ F O O1 (fun _ => True) xs := fun F1 H1 e hS R q =>
  h F1 H1 e hS _ fun vs F2 H2 e2 g2 r2 => by
    obtain ⟨v, _, rfl, rfl, rfl⟩ := r2
    unfold rng1 at hx
    split at hx
    · cases hx
      rename_i hn
      exact ⟨n, rfl, hn.1, hn.2, q _ F2 H2 e2 g2 src_rng⟩
    · cases hx
theorem ei_rng2 {ta : TA} {a b : Int} {xs : List Int} (h : EvA K ta σ F O O1 (a, (b, ()))) (hx : rng2 a b = some xs) : EvI K (iRng2 ta) σ F O O1 (fun _ => True) xs := fun F1 H1 e hS R q =>
  h F1 H1 e hS _ fun vs F2 H2 e2 g2 r2 => by
    obtain ⟨v, _, rfl, rfl, w, _, rfl, rfl, rfl⟩ := r2
    unfold rng2 at hx
    split at hx
    · cases hx
      rename_i hn
      exact ⟨a, b, rfl, hn, q _ F2 H2 e2 g2 src_rng⟩
    · cases hx
/-- a for, by the state that it carries -/
theorem for_core {α S R : Type} [Enc α] [Enc R] {wi : TI} {g : TG} {xs : List α} {body : S → α → Option (Ctl S R)} {s0 : S} {c : Ctl S R} {P : OS → Prop} {OR : OS} (own : S → OS) (I : S → Hp → L2.St → Prop)
    (hS : Hd K F O H) (hi : EvI K wi σ F O (own s0) P xs) (hm : forC body xs s0 = some c) (hP : ∀ s, P (own s)) (h0 : ∀ F1, Same F F1 → I s0 F1 σ)
    (hs : ∀ s x c v F1 F2 σ' H', body s x = some c → Same F F1 → I s F1 σ' → Same F1 F2 → Hd K F2 (own s) H' → rep K F2 v x → ∀ D' : Ends, D'.ct = D'.nx → CtlPost K F2 own I OR D' c → g v σ' H' fun σ2 H2 => tu D' σ2 H2)
    (hd : CtlEnd K F own I OR D c) : tFor wi g tu D σ H := hi F H (Same.refl _) hS _ fun J F2 H2 e2 g2 src => by
  refine ⟨fun i m σ' H' => m = xs.length - i ∧ i ≤ xs.length ∧ ∃ s F', forC body (xs.drop i) s = some c ∧ Same F2 F' ∧ Hd K F' (own s) H' ∧ I s F' σ', ⟨xs.length, by simp, Nat.zero_le _, s0, F2, hm, Same.refl _, g2, h0 F2 e2⟩, ?_⟩
  rintro i m σ' H' ⟨rfl, hi', s, F', hc, e', g', hI⟩
  by_cases hlt : i < xs.length
  · refine .inr ⟨src.goes i H' F' _ hlt e' g' (hP s), ?_⟩
    have hdr : xs.drop i = xs[i] :: xs.drop (i + 1) := List.drop_eq_getElem_cons hlt
    rw [hdr] at hc
    unfold forC at hc
    cases hb : body s xs[i] with
    | none =>
      rw [hb] at hc
      cases hc
    | some c' =>
      rw [hb] at hc
      refine ⟨fun σ3 H3 => ∃ s', c' = .nx s' ∧ ∃ F3, Same F2 F3 ∧ Hd K F3 (own s') H3 ∧ I s' F3 σ3, fun σ3 H3 hN => ?_, fun v H3 hy => ?_⟩
      · obtain ⟨s', rfl, F3, e3, g3, I3⟩ := hN
        exact ⟨xs.length - (i + 1), by omega, rfl, hlt, s', F3, hc, e3, g3, I3⟩
      · obtain ⟨F4, x, hx, e4, g4, r4⟩ := src.yld i H' v H3 F' _ hlt e' g' (hP s) hy
        have ex : xs[i] = x := by
          rw [List.getElem?_eq_getElem hlt] at hx
          exact Option.some.inj hx
        subst ex
        refine hs s _ c' v F' F4 σ' H3 hb (e2.trans e') hI e4 g4 r4 _ rfl ?_
        cases c' with
        | nx s' => exact fun F5 σ5 H5 e5 g5 I5 => ⟨s', rfl, F5, (e'.trans e4).trans e5, g5, I5⟩
        | bk s' =>
          cases hc
          exact fun F5 σ5 H5 e5 g5 I5 => hd F5 σ5 H5 (((e2.trans e').trans e4).trans e5) g5 I5
        | rt r =>
          cases hc
          exact fun v5 F5 H5 e5 g5 r5 => hd v5 F5 H5 (((e2.trans e').trans e4).trans e5) g5 r5
  · have e : i = xs.length := by omega
    subst e
    rw [List.drop_length] at hc
    cases hc
    exact .inl ⟨src.stops H' F' _ e' g' (hP s), hd F' σ' H' (e2.trans e') g' hI⟩
theorem q_for {α S R : Type} [Enc α] [Enc R] {wi : TI} {g : TG} {xs : List α} {body : S → α → Option (Ctl S R)} {s0 : S} {c : Ctl S R} {P : OS → Prop} {OR : OS} (own : S → OS) (I : S → Hp → L2.St → Prop)
    (hS : Hd K F O H) (hi : EvI K wi σ F O (own s0) P xs) (hm : forC body xs s0 = some c) (hP : ∀ s, P (own s)) (h0 : ∀ F1, Same F F1 → I s0 F1 σ)
    (hs : ∀ s x c v F1 F2 σ' H', body s x = some c → Same F F1 → I s F1 σ' → Same F1 F2 → Hd K F2 (own s) H' → rep K F2 v x → ∀ D' : Ends, D'.ct = D'.nx → CtlPost K F2 own I OR D' c → g v σ' H' fun σ2 H2 => tu D' σ2 H2)
    (hd : CtlEnd K F own I OR { D with nx := tz D } c) : tSeq (tFor wi g tu) tz D σ H := for_core (D := { D with nx := tz D }) own I hS hi hm hP h0 hs hd
/-- the body neither leaves nor returns -/
theorem q_forS {α S : Type} [Enc α] {wi : TI} {g : TG} {xs : List α} {body : S → α → Option S} {s0 s1 : S} {P : OS → Prop} (own : S → OS) (I : S → Hp → L2.St → Prop)
    (hS : Hd K F O H) (hi : EvI K wi σ F O (own s0) P xs) (hm : forS body xs s0 = some s1) (hP : ∀ s, P (own s)) (h0 : ∀ F1, Same F F1 → I s0 F1 σ)
    (hs : ∀ s x s' v F1 F2 σ' H', body s x = some s' → Same F F1 → I s F1 σ' → Same F1 F2 → Hd K F2 (own s) H' → rep K F2 v x → ∀ D' : Ends, D'.ct = D'.nx → (∀ F' σ3 H3, Same F2 F' → Hd K F' (own s') H3 → I s' F' σ3 → D'.nx σ3 H3) → g v σ' H' fun σ2 H2 => tu D' σ2 H2)
    (hd : ∀ F' σ' H', Same F F' → Hd K F' (own s1) H' → I s1 F' σ' → tz D σ' H') : tSeq (tFor wi g tu) tz D σ H :=
  q_for (R := Unit) (OR := []) own I hS hi (forS_ctl hm) hP h0 (fun s x c v F1 F2 σ' H' hb e hI e2 g2 r D' hD hp => by
    obtain ⟨s', hs', rfl⟩ := Option.map_eq_some_iff.mp hb
    exact hs s x s' v F1 F2 σ' H' hs' e hI e2 g2 r D' hD hp) hd
/-! while -/
def whileC {S R : Type} (cond : S → Option Bool) (body : S → Option (Ctl S R)) : Nat → S → Option (Ctl S R)
  | 0, _ => none
  | n + 1, s => match cond s with
    | none => none
    | some false => some (.nx s)
    | some true => match body s with
      | none => none
      | some (.nx s') => whileC cond body n s'
      | some (.bk s') => some (.bk s')
      | some (.rt r) => some (.rt r)
def whileS {S : Type} (cond : S → Option Bool) (body : S → Option S) : Nat → S → Option S
  | 0, _ => none
  | n + 1, s => match cond s with
    | none => none
    | some false => some s
    | some true => (body s).bind fun s' => whileS cond body n s'
theorem whileS_ctl {S : Type} {cond : S → Option Bool} {body : S → Option S} : ∀ {n : Nat} {s s' : S}, whileS cond body n s = some s' → whileC (R := Unit) cond (fun s => (body s).map Ctl.nx) n s = some (.nx s')
  | 0, s, s', h => by cases h
  | n + 1, s, s', h => by
    unfold whileS at h
    unfold whileC
    cases q : cond s with
    | none =>
      rw [q] at h
      cases h
    | some b =>
      rw [q] at h
      cases b with
      | false =>
        cases h
        rfl
      | true =>
        cases q2 : body s with
        | none =>
          rw [q2] at h
          cases h
        | some z =>
          rw [q2] at h
          exact whileS_ctl (n := n) h
theorem while_core {S R : Type} [Enc R] {cond : S → Option Bool} {body : S → Option (Ctl S R)} {n : Nat} {s0 : S} {c : Ctl S R} {OR : OS} (own : S → OS) (I : S → Hp → L2.St → Prop)
    (hS : Hd K F (own s0) H) (hm : whileC cond body n s0 = some c) (h0 : I s0 F σ)
    (hc : ∀ s b F1 σ', cond s = some b → Same F F1 → I s F1 σ' → EvT K t σ' F1 (own s) (own s) b)
    (hs : ∀ s c F1 F2 σ' H', body s = some c → cond s = some true → Same F F1 → I s F1 σ' → Same F1 F2 → Hd K F2 (own s) H' → ∀ D' : Ends, D'.ct = D'.nx → CtlPost K F2 own I OR D' c → tu D' σ' H')
    (hmono : ∀ s F1 F2 σ', Same F1 F2 → I s F1 σ' → I s F2 σ')
    (hd : CtlEnd K F own I OR D c) : tWhile t tu D σ H := by
  refine ⟨fun m σ' H' => ∃ s F', whileC cond body m s = some c ∧ Same F F' ∧ Hd K F' (own s) H' ∧ I s F' σ', ⟨n, s0, F, hm, Same.refl _, hS, h0⟩, ?_⟩
  rintro m σ' H' ⟨s, F', hw, e', g', hI⟩
  cases m with
  | zero => cases hw
  | succ m =>
    unfold whileC at hw
    cases hb : cond s with
    | none =>
      rw [hb] at hw
      cases hw
    | some b =>
      rw [hb] at hw
      refine hc s b F' σ' hb e' hI F' H' (Same.refl _) g' _ fun F2 H2 e2 g2 => ?_
      cases b with
      | false =>
        cases hw
        show D.nx σ' H2
        exact hd F2 σ' H2 (e'.trans e2) g2 (hmono s F' F2 σ' e2 hI)
      | true =>
        cases hb2 : body s with
        | none =>
          rw [hb2] at hw
          cases hw
        | some c' =>
          rw [hb2] at hw
          refine ⟨fun σ3 H3 => ∃ s', c' = .nx s' ∧ ∃ F3, Same F F3 ∧ Hd K F3 (own s') H3 ∧ I s' F3 σ3, fun σ3 H3 hN => ?_, ?_⟩
          · obtain ⟨s', rfl, F3, e3, g3, I3⟩ := hN
            exact ⟨m, Nat.lt_succ_self _, s', F3, hw, e3, g3, I3⟩
          · refine hs s c' F' F2 σ' H2 hb2 hb e' hI e2 g2 _ rfl ?_
            cases c' with
            | nx s' => exact fun F5 σ5 H5 e5 g5 I5 => ⟨s', rfl, F5, (e'.trans e2).trans e5, g5, I5⟩
            | bk s' =>
              cases hw
              exact fun F5 σ5 H5 e5 g5 I5 => hd F5 σ5 H5 ((e'.trans e2).trans e5) g5 I5
            | rt r =>
              cases hw
              exact fun v5 F5 H5 e5 g5 r5 => hd v5 F5 H5 ((e'.trans e2).trans e5) g5 r5
theorem q_while {S R : Type} [Enc R] {cond : S → Option Bool} {body : S → Option (Ctl S R)} {n : Nat} {s0 : S} {c : Ctl S R} {OR : OS} (own : S → OS) (I : S → Hp → L2.St → Prop)
    (hS : Hd K F (own s0) H) (hm : whileC cond body n s0 = some c) (h0 : I s0 F σ)
    (hc : ∀ s b F1 σ', cond s = some b → Same F F1 → I s F1 σ' → EvT K t σ' F1 (own s) (own s) b)
    (hs : ∀ s c F1 F2 σ' H', body s = some c → cond s = some true → Same F F1 → I s F1 σ' → Same F1 F2 → Hd K F2 (own s) H' → ∀ D' : Ends, D'.ct = D'.nx → CtlPost K F2 own I OR D' c → tu D' σ' H')
    (hmono : ∀ s F1 F2 σ', Same F1 F2 → I s F1 σ' → I s F2 σ')
    (hd : CtlEnd K F own I OR { D with nx := tz D } c) : tSeq (tWhile t tu) tz D σ H := while_core (D := { D with nx := tz D }) own I hS hm h0 hc hs hmono hd
theorem q_whileS {S : Type} {cond : S → Option Bool} {body : S → Option S} {n : Nat} {s0 s1 : S} (own : S → OS) (I : S → Hp → L2.St → Prop)
    (hS : Hd K F (own s0) H) (hm : whileS cond body n s0 = some s1) (h0 : I s0 F σ)
    (hc : ∀ s b F1 σ', cond s = some b → Same F F1 → I s F1 σ' → EvT K t σ' F1 (own s) (own s) b)
    (hs : ∀ s s' F1 F2 σ' H', body s = some s' → cond s = some true → Same F F1 → I s F1 σ' → Same F1 F2 → Hd K F2 (own s) H' → ∀ D' : Ends, D'.ct = D'.nx → (∀ F' σ3 H3, Same F2 F' → Hd K F' (own s') H3 → I s' F' σ3 → D'.nx σ3 H3) → tu D' σ' H')
    (hmono : ∀ s F1 F2 σ', Same F1 F2 → I s F1 σ' → I s F2 σ')
    (hd : ∀ F' σ' H', Same F F' → Hd K F' (own s1) H' → I s1 F' σ' → tz D σ' H') : tSeq (tWhile t tu) tz D σ H :=
  q_while (R := Unit) (OR := []) own I hS (whileS_ctl hm) h0 hc (fun s c F1 F2 σ' H' hb hc' e hI e2 g2 D' hD hp => by
    obtain ⟨s', hs', rfl⟩ := Option.map_eq_some_iff.mp hb
    exact hs s s' F1 F2 σ' H' hs' hc' e hI e2 g2 D' hD hp) hmono hd
/-! comprehensions -/
def compC {α β S : Type} (f : S → α → Option (S × Option β)) : List α → S → Option (S × List β)
  | [], s => some (s, [])
  | x :: xs, s => (f s x).bind fun r => (compC f xs r.1).map fun q => (q.1, r.2.toList ++ q.2)
/-- without effect -/
def comp {α β : Type} (f : α → Option (Option β)) : List α → Option (List β)
  | [] => some []
  | x :: xs => (f x).bind fun r => (comp f xs).map fun q => r.toList ++ q
theorem comp_C {α β : Type} {f : α → Option (Option β)} : ∀ {xs : List α} {ys : List β}, comp f xs = some ys → compC (S := Unit) (fun _ x => (f x).map fun r => ((), r)) xs () = some ((), ys)
  | [], ys, h => by
    cases h
    rfl
  | x :: xs, ys, h => by
    unfold comp at h
    unfold compC
    cases q : f x with
    | none =>
      rw [q] at h
      cases h
    | some r =>
      rw [q] at h
      have h : (comp f xs).map (fun q => r.toList ++ q) = some ys := h
      obtain ⟨zs, hz, rfl⟩ := Option.map_eq_some_iff.mp h
      show (compC _ xs ()).map _ = _
      rw [comp_C hz]
      rfl
theorem evt_yes : EvT K tYes σ F O O true := fun F1 H1 e hS Q q => q F1 H1 (Same.refl _) hS
theorem evn_lcC {α β S : Type} [Enc α] [Enc β] {wi : TI} {g : TG} {tt : TT} {vs : List Nat} {xs : List α} {ys : List β} {f : S → α → Option (S × Option β)} {s0 s1 : S} {P : OS → Prop} (own : S → OS) (sg : V → L2.St)
    (hi : EvI K wi σ F O (own s0) P xs) (hm : compC f xs s0 = some (s1, ys)) (hP : ∀ s D d, P ((D, d) :: own s)) (hn : ys.length ≤ LN)
    (hg : ∀ v H Q, Q (sg v) H → g v (wipe σ vs) H Q) (hw : ∀ v, wipe (sg v) vs = wipe σ vs)
    (hs : ∀ s x r v F1 D acc, f s x = some r → Same F F1 → rep K F1 v x → ∃ b, EvT K tt (sg v) F1 ((D, ownL acc) :: own s) ((D, ownL acc) :: own s) b ∧ (b = false → r = (s, none)) ∧ (b = true → ∃ y, r.2 = some y ∧ Ev K te (sg v) F1 ((D, ownL (α := β) acc) :: own s) ((D, ownL acc) :: own r.1) y)) :
    EvN K (tLc wi g tt te vs) σ F O (own s1) (ownL ys) := fun F1 H1 e hS Q q => hi F1 H1 e hS _ fun J F2 H2 e2 g2 src => by
  intro Dl hD
  refine ⟨fun i m H' => m = xs.length - i ∧ i ≤ xs.length ∧ ∃ s F' acc zs, compC f (xs.drop i) s = some (s1, zs) ∧ acc ++ zs = ys ∧ Same F2 F' ∧ Hd K F' ((Dl, ownL acc) :: own s) H', ⟨xs.length, by simp, Nat.zero_le _, s0, F2, [], ys, hm, rfl, Same.refl _, g2.new hD ⟨[], rfl, .nil⟩⟩, ?_⟩
  rintro i m H' ⟨rfl, hi', s, F', acc, zs, hc, hz, e', g'⟩
  by_cases hlt : i < xs.length
  · refine .inr ⟨src.goes i H' F' _ hlt e' g' (hP s _ _), ?_⟩
    have hdr : xs.drop i = xs[i] :: xs.drop (i + 1) := List.drop_eq_getElem_cons hlt
    rw [hdr] at hc
    unfold compC at hc
    cases hb : f s xs[i] with
    | none =>
      rw [hb] at hc
      cases hc
    | some r =>
      rw [hb] at hc
      have hc : (compC f (xs.drop (i + 1)) r.1).map (fun q => (q.1, r.2.toList ++ q.2)) = some (s1, zs) := hc
      obtain ⟨p, hp, ep⟩ := Option.map_eq_some_iff.mp hc
      obtain ⟨p1, p2⟩ := p
      injection ep with ep1 ep2
      have ep1 : p1 = s1 := ep1
      subst ep1
      refine ⟨fun H3 => ∃ F3, Same F2 F3 ∧ Hd K F3 ((Dl, ownL (acc ++ r.2.toList)) :: own r.1) H3, fun H3 hN => ?_, fun v H3 hy => ?_⟩
      · obtain ⟨F3, e3, g3⟩ := hN
        refine ⟨xs.length - (i + 1), by omega, rfl, hlt, r.1, F3, acc ++ r.2.toList, p2, hp, ?_, e3, g3⟩
        rw [List.append_assoc, ← hz, ← ep2]
      · obtain ⟨F4, x, hx, e4, g4, r4⟩ := src.yld i H' v H3 F' _ hlt e' g' (hP s _ _) hy
        have ex : xs[i] = x := by
          rw [List.getElem?_eq_getElem hlt] at hx
          exact Option.some.inj hx
        subst ex
        refine hg v H3 _ ?_
        refine ⟨hw v, ?_⟩
        obtain ⟨b, hb1, hb2, hb3⟩ := hs s _ r v F4 Dl acc hb (((e.trans e2).trans e').trans e4) r4
        refine hb1 F4 H3 (Same.refl _) g4 _ fun F5 H5 e5 g5 => ?_
        cases b with
        | false =>
          have er := hb2 rfl
          subst er
          show ∃ F3, _
          refine ⟨F5, (e'.trans e4).trans e5, ?_⟩
          rw [show acc ++ (none : Option β).toList = acc from List.append_nil acc]
          exact g5
        | true =>
          obtain ⟨y, hy1, hy2⟩ := hb3 rfl
          show te (sg v) H5 _
          refine hy2 F5 H5 e5 g5 _ fun w F6 H6 e6 g6 r6 => ?_
          obtain ⟨o, a1, us, rfl, a3⟩ := g6.get List.mem_cons_self
          refine ⟨us, a1, ?_, F6, ((e'.trans e4).trans e5).trans e6, ?_⟩
          · rw [paired_len a3]
            have h1 : acc.length + 1 ≤ ys.length := by
              rw [← hz, ← ep2, hy1, List.length_append, List.length_append]
              show acc.length + 1 ≤ acc.length + (1 + p2.length)
              omega
            exact ln_lt (Nat.lt_of_lt_of_le h1 hn)
          · have g7 := g6.set (d' := ownL (acc ++ [y])) (i := 0) (o := .lst (us ++ [w])) rfl ⟨_, rfl, paired_snoc a3 r6⟩
            rw [hy1]
            exact g7
  · have e9 : i = xs.length := by omega
    subst e9
    rw [List.drop_length] at hc
    cases hc
    rw [List.append_nil] at hz
    subst hz
    exact .inl ⟨src.stops H' F' _ e' g' (hP _ _ _), q Dl F' H' (e2.trans e') g'⟩
end
end G

namespace G
open PySem PySem.Spec PyProof.Rows L2
section
variable {K : FR} {σ : L2.St} {F F' H : Hp} {O O1 O2 O3 : OS} {ta tb tc te : TE} {t u : TT}
/-! ### sep.join(list of texts) -/
def joinL (sep : Tx) : List Tx → Tx
  | [] => []
  | [x] => x
  | x :: y :: r => x ++ sep ++ joinL sep (y :: r)
theorem joinL_cons (sep x : Tx) : ∀ ys : List Tx, joinL sep (x :: ys) = x ++ (ys.map fun y => sep ++ y).flatten
  | [] => by simp [joinL]
  | y :: r => by
    show x ++ sep ++ joinL sep (y :: r) = _
    rw [joinL_cons sep y r]
    simp
def toS (x : Tx) : Str := ⟨⟨x⟩⟩
theorem glue_fold (sep : Tx) : ∀ (ys : List Tx) (acc : Tx), (ys.map toS).foldl (fun (acc : Array Nat) (p : Str) => acc ++ (toS sep).cps ++ p.cps) ⟨acc⟩ = ⟨acc ++ (ys.map fun y => sep ++ y).flatten⟩
  | [], acc => by simp
  | y :: r, acc => by
    rw [List.map_cons, List.foldl_cons]
    have e : (⟨acc⟩ : Array Nat) ++ (toS sep).cps ++ (toS y).cps = ⟨acc ++ (sep ++ y)⟩ := by
      show (⟨acc⟩ : Array Nat) ++ ⟨sep⟩ ++ ⟨y⟩ = _
      simp
    rw [e, glue_fold sep r]
    simp
theorem join_eq (sep : Tx) (ys : List Tx) : Txt.join (toS sep) (ys.map toS) = toS (joinL sep ys) := by
  cases ys with
  | nil => rfl
  | cons x r =>
    rw [joinL_cons]
    show Str.mk (((x :: r).map toS).drop 1 |>.foldl (fun acc p => acc ++ (toS sep).cps ++ p.cps) (((x :: r).map toS).headD Str.empty).cps) = _
    show Str.mk ((r.map toS).foldl (fun acc p => acc ++ (toS sep).cps ++ p.cps) ⟨x⟩) = _
    rw [glue_fold]
    rfl
def joinS (sep : Tx) (ys : List Tx) : Option Tx := if (ys.map (·.length)).sum + ys.length * sep.length ≤ LN then some (joinL sep ys) else none
theorem joinL_len (sep : Tx) : ∀ ys : List Tx, (joinL sep ys).length ≤ (ys.map (·.length)).sum + ys.length * sep.length
  | [] => by simp [joinL]
  | [x] => by simp [joinL]
  | x :: y :: r => by
    have h := joinL_len sep (y :: r)
    show (x ++ sep ++ joinL sep (y :: r)).length ≤ _
    rw [List.length_append, List.length_append, List.map_cons, List.sum_cons, List.length_cons, Nat.succ_mul]
    omega
theorem joinL_mem (sep : Tx) {c : Nat} : ∀ ys : List Tx, c ∈ joinL sep ys → c ∈ sep ∨ ∃ y ∈ ys, c ∈ y
  | [], h => by cases h
  | [x], h => .inr ⟨x, by simp, h⟩
  | x :: y :: r, h => by
    have h : c ∈ x ++ sep ++ joinL sep (y :: r) := h
    rcases List.mem_append.mp h with h | h
    · rcases List.mem_append.mp h with h | h
      · exact .inr ⟨x, by simp, h⟩
      · exact .inl h
    · rcases joinL_mem sep (y :: r) h with h | ⟨z, hz, h⟩
      · exact .inl h
      · exact .inr ⟨z, List.mem_cons_of_mem _ hz, h⟩
theorem paired_tx : ∀ {ys : List V} {xs : List Tx}, Paired (rep K F) ys xs → ys = (xs.map toS).map V.str ∧ ∀ x ∈ xs, TxOk x
  | _, _, .nil => ⟨rfl, fun x hx => by cases hx⟩
  | _, _, .cons r t => by
    obtain ⟨h1, h2⟩ := paired_tx t
    refine ⟨by rw [List.map_cons, List.map_cons, ← h1, r.1]; rfl, fun x hx => ?_⟩
    rcases List.mem_cons.mp hx with e | hx
    · rw [e]
      exact r.2
    · exact h2 x hx
abbrev rJoin (K : FR) : V → List V → Hp → VK → Prop := fun x xs H Q => ∃ a p, ∃ ys : List Str, x = .str a ∧ xs = [.ref p] ∧ (SqL K H p (ys.map V.str) ∨ SqT K H p (ys.map V.str)) ∧ (ys.map (·.length)).sum + ys.length * a.length ≤ 16777216 ∧ Q (.str (Txt.join a ys)) H
theorem ev_join {α : Type} [Enc α] {sep z : Tx} {x : α} {xs : List Tx} (ha : Ev K ta σ F O O1 sep) (hb : Ev K tb σ F O1 O2 x) (hl : Lst K O2 x xs) (h : joinS sep xs = some z) : Ev K (tM1 (rJoin K) ta tb) σ F O O2 z := fun F1 H1 e hS Q q =>
  ha F1 H1 e hS _ fun v F2 H2 e2 g2 r2 => by
    obtain ⟨rfl, o1⟩ := r2
    refine ⟨⟨_, rfl⟩, hb F2 H2 (e.trans e2) g2 _ fun w F3 H3 e3 g3 r3 => ?_⟩
    obtain ⟨p, ys, rfl, h2, h3⟩ := (hl _ _ r3).read g3
    obtain ⟨rfl, hok⟩ := paired_tx h3
    unfold joinS at h
    split at h
    · cases h
      rename_i hz
      refine ⟨⟨⟨sep⟩⟩, p, xs.map toS, rfl, rfl, .inl (SqL.of h2), ?_, ?_⟩
      · rw [List.map_map, List.length_map]
        exact Nat.le_trans hz (by decide)
      · rw [show Txt.join ⟨⟨sep⟩⟩ (xs.map toS) = toS (joinL sep xs) from join_eq sep xs]
        refine q _ F3 H3 (e2.trans e3) g3 ⟨rfl, TxOk.mk' (Nat.le_trans (joinL_len _ _) hz) fun c hc => ?_⟩
        rcases joinL_mem sep xs hc with hc | ⟨y, hy, hc⟩
        · exact o1.lt c hc
        · exact (hok y hy).lt c hc
    · cases h
/-! ### text * int -/
def rMulS : R2 := fun x y H Q => ∃ (z : Str) (n : Int), x = .str z ∧ y = .int n ∧ n ≤ 1000000 ∧ -1000000 ≤ n ∧ z.length * n.toNat ≤ sizeLine ∧ Q (.str (Txt.mul z n)) H
theorem op_mulS {X : Cx} : OpR X (binaryOp .Mult) rMulS := by
  intro pins s σ H x y v u Q I rx ry h
  obtain ⟨z, n, rfl, rfl, h1, h0, h2, q⟩ := h
  obtain ⟨t, rfl⟩ := rx
  obtain ⟨t', rfl⟩ := ry
  refine PySem.SB.mul ⟨?_, fun hn hz => ?_, fun hn hz => ?_⟩ fun t2 k => ⟨.str _, H, I.tok k, ⟨t2, rfl⟩, q⟩
  · rw [decide_eq_false (by omega), decide_eq_false (by omega)]
    rfl
  · intro hc
    have h3 : (2 : Int) ^ 63 - 1 ≥ 1000000 * 16777216 := by decide
    have h4 : (16777216 : Int) ≤ (2 ^ 63 - 1) / n := by
      apply (Int.le_ediv_iff_mul_le (by omega)).mpr
      omega
    have h5 : z.length ≤ z.length * n.toNat := Nat.le_mul_of_pos_right _ (by omega)
    have h6 : sizeLine = 16777216 := by decide
    omega
  · unfold Builtin.Str.tooLong
    exact decide_eq_false (by omega)
def mulL : Nat → Tx → Tx
  | 0, _ => []
  | n + 1, x => x ++ mulL n x
theorem mulL_len (x : Tx) : ∀ n, (mulL n x).length = x.length * n
  | 0 => rfl
  | n + 1 => by
    show (x ++ mulL n x).length = _
    rw [List.length_append, mulL_len x n, Nat.mul_succ]
    omega
theorem mulL_mem {x : Tx} {c : Nat} : ∀ {n}, c ∈ mulL n x → c ∈ x
  | 0, h => by cases h
  | n + 1, h => by
    rcases List.mem_append.mp (show c ∈ x ++ mulL n x from h) with h | h
    · exact h
    · exact mulL_mem h
theorem rep_fold (x : Tx) : ∀ (n : Nat) (acc : Tx), (List.replicate n (⟨x⟩ : Array Nat)).foldl (· ++ ·) ⟨acc⟩ = ⟨acc ++ mulL n x⟩
  | 0, acc => by
    show (⟨acc⟩ : Array Nat) = ⟨acc ++ []⟩
    rw [List.append_nil]
  | n + 1, acc => by
    rw [List.replicate_succ, List.foldl_cons]
    have e : (⟨acc⟩ : Array Nat) ++ ⟨x⟩ = ⟨acc ++ x⟩ := by simp
    rw [e, rep_fold x n]
    show (⟨acc ++ x ++ mulL n x⟩ : Array Nat) = ⟨acc ++ (x ++ mulL n x)⟩
    rw [List.append_assoc]
theorem mulL_nil : ∀ n, mulL n [] = []
  | 0 => rfl
  | n + 1 => mulL_nil n
theorem mul_eq (x : Tx) (n : Int) : Txt.mul (toS x) n = toS (mulL n.toNat x) := by
  unfold Txt.mul
  split
  · rename_i h
    have e : n.toNat = 0 := by omega
    rw [e]
    rfl
  · split
    · rename_i h1 h
      rw [Bool.or_eq_true] at h
      rcases h with h | h
      · have e : n = 1 := eq_of_beq h
        subst e
        show toS x = toS (x ++ [])
        rw [List.append_nil]
      · have e : x.length = 0 := eq_of_beq h
        have e2 : x = [] := List.length_eq_zero_iff.mp e
        subst e2
        rw [mulL_nil]
    · show Str.mk ((List.replicate n.toNat (⟨x⟩ : Array Nat)).foldl (· ++ ·) ⟨[]⟩) = _
      rw [rep_fold]
      rfl
def mulS (x : Tx) (n : Int) : Option Tx := if n ≤ 1000000 ∧ -1000000 ≤ n ∧ x.length * n.toNat ≤ LN then some (mulL n.toNat x) else none
theorem ev_mulS {x z : Tx} {n : Int} (ha : Ev K ta σ F O O1 x) (hb : Ev K tb σ F O1 O2 n) (h : mulS x n = some z) : Ev K (tOp rMulS ta tb) σ F O O2 z := by
  unfold mulS at h
  split at h
  · cases h
    rename_i hz
    refine ev_op ha hb ?_
    intro F1 H1 v w e hS rv rw_ Q q
    obtain ⟨rfl, o1⟩ := rv
    cases rw_
    refine ⟨⟨⟨x⟩⟩, n, rfl, rfl, hz.1, hz.2.1, ln_size hz.2.2, ?_⟩
    rw [show Txt.mul ⟨⟨x⟩⟩ n = toS (mulL n.toNat x) from mul_eq x n]
    exact q _ F1 H1 (Same.refl _) hS ⟨rfl, TxOk.mk' (by rw [mulL_len]; exact hz.2.2) fun c hc => o1.lt c (mulL_mem hc)⟩
  · cases h
/-! ### isinstance -/
/-- the built-in type of the values -/
class TyN (α : Type) [Enc α] where
  name : String
  ty : ∀ {K : FR} {F : Hp} {v : V} {x : α}, rep K F v x → TyX K F v (.type name)
def TyA {α : Type} [Enc α] (K : FR) (O : OS) (x : α) (n : String) : Prop := ∀ F H v, Hd K F O H → rep K F v x → TyX K H v (.type n)
theorem tya_int {i : Int} : TyA K O i "int" := fun F H v _ r => by
  cases r
  exact .base (.int i)
theorem tya_bool {i : Bool} : TyA K O i "bool" := fun F H v _ r => by
  cases r
  exact .base (.bl i)
theorem tya_str {x : Tx} : TyA K O x "str" := fun F H v _ r => by
  obtain ⟨rfl, _⟩ := r
  exact .base (.str _)
theorem tya_list {α γ : Type} [Enc α] [Enc γ] {x : α} {xs : List γ} (hl : Lst K O x xs) : TyA K O x "list" := fun F H v hS r => by
  obtain ⟨p, ys, rfl, h1, _⟩ := (hl _ _ r).read hS
  exact .base (.lst h1)
theorem tyx_tup {F H : Hp} {a : Addr} {xs : List V} (e : Same F H) (h : SqT K F a xs) : TyX K H (.ref a) (.type "tuple") := by
  rcases h with (h | ⟨o, h⟩) | ⟨o, its, n, h, c, _⟩
  · exact .base (.tup (e _ _ h))
  · exact .fTuple (e _ _ h)
  · exact .kTuple h c
theorem tya_tp {γ : Type} [Enc γ] {x : Tp γ} : TyA K O x "tuple" := fun F H v hS r => by
  obtain ⟨p, ys, rfl, h1, _⟩ := r
  exact tyx_tup hS.ex h1
theorem tya_pair {α β : Type} [Enc α] [Enc β] {x : α × β} : TyA K O x "tuple" := fun F H v hS r => by
  obtain ⟨p, _, _, rfl, h1, _⟩ := r
  exact tyx_tup hS.ex h1
theorem ev_isi {α : Type} [Enc α] {x : α} {n m : String} {b : Bool} (h : Ev K ta σ F O O1 x) (ht : TyA K O1 x n) (hb : kitB n m = some b) : Ev K (tCB (rIsi K) (tCons ta (tCons (tC (.ty m)) tNil))) σ F O O1 b := fun F1 H1 e hS Q q =>
  h F1 H1 e hS _ fun v F2 H2 e2 g2 r2 => ⟨v, .ty m, .type n, .type m, b, rfl, .ty m, ht F2 H2 v g2 r2, kit_ty hb, q _ F2 H2 e2 g2 rfl⟩
/-! ### == of data -/
class ToD (α : Type) [Enc α] where
  toD : α → PyData
  dp : ∀ {K : FR} {F : Hp} {v : V} {x : α}, rep K F v x → Dp K F v (toD x)
  can : ∀ {K : FR} {F : Hp} {v : V} {x : α}, rep K F v x → (toD x).canLay0 = true
  dep : Nat
  depth : ∀ x : α, (toD x).depth ≤ dep
class EqD (α : Type) [Enc α] [ToD α] [DecidableEq α] : Prop where
  eqv : ∀ x y : α, PyData.eqv (ToD.toD x) (ToD.toD y) = decide (x = y)
theorem dp_same {F H : Hp} (e : Same F H) {v : V} {d : PyData} (h : Dp K F v d) : Dp K H v d := by
  refine Dp.rec (motive_1 := fun v d _ => Dp K H v d) (motive_2 := fun vs ds _ => DpAll K H vs ds) .non .bl .int .str (fun h _ ih => .lst (e.seq h) ih) (fun h _ ih => .tup (same_t e h) ih) .nil (fun _ _ a b => .cons a b) h
instance : ToD Int := ⟨.int, fun h => by cases h; exact .int _, fun _ => rfl, 0, fun _ => Nat.le_refl _⟩
instance : ToD Bool := ⟨.bool, fun h => by cases h; exact .bl _, fun _ => rfl, 0, fun _ => Nat.le_refl _⟩
instance : ToD (List Nat) := ⟨fun x => .str ⟨⟨x⟩⟩, fun h => by obtain ⟨rfl, _⟩ := h; exact .str _, fun {K F v x} h => by
  show (Array.all ⟨x⟩ (· < 0x110000)) = true
  rw [← Array.all_toList]
  exact h.2.2, 0, fun _ => Nat.le_refl _⟩
theorem dpAll_of {γ : Type} [Enc γ] [ToD γ] : ∀ {ys : List V} {xs : List γ}, Paired (rep K F) ys xs → DpAll K F ys (xs.map ToD.toD)
  | _, _, .nil => .nil
  | _, _, .cons r t => .cons (ToD.dp r) (dpAll_of t)
theorem canAll_of {γ : Type} [Enc γ] [ToD γ] : ∀ {ys : List V} {xs : List γ}, Paired (rep K F) ys xs → PyData.canLayAll0 (xs.map ToD.toD) = true
  | _, _, .nil => by simp [PyData.canLayAll0]
  | _, _, .cons r t => by
    rw [List.map_cons, PyData.canLayAll0, ToD.can r, canAll_of t]
    rfl
theorem depAll {γ : Type} [Enc γ] [ToD γ] : ∀ xs : List γ, PyData.depthAll (xs.map ToD.toD) ≤ ToD.dep γ
  | [] => Nat.zero_le _
  | x :: xs => by
    rw [List.map_cons, PyData.depthAll]
    exact Nat.max_le.mpr ⟨ToD.depth x, depAll xs⟩
instance instToDList {γ : Type} [Enc γ] [ToD γ] : @ToD (List γ) encList := ⟨fun xs => .list (xs.map ToD.toD), fun h => by
    obtain ⟨a, ys, rfl, h1, h2⟩ := h
    exact .lst (SqL.of h1) (dpAll_of h2), fun h => by
    obtain ⟨a, ys, rfl, h1, h2⟩ := h
    exact canAll_of h2, ToD.dep γ + 1, fun x => by
    rw [PyData.depth]
    exact Nat.succ_le_succ (depAll x)⟩
instance instToDTp {γ : Type} [Enc γ] [ToD γ] : ToD (Tp γ) := ⟨fun xs => .tuple (xs.l.map ToD.toD), fun h => by
    obtain ⟨a, ys, rfl, h1, h2⟩ := h
    exact .tup h1 (dpAll_of h2), fun h => by
    obtain ⟨a, ys, rfl, h1, h2⟩ := h
    exact canAll_of h2, ToD.dep γ + 1, fun x => by
    rw [PyData.depth]
    exact Nat.succ_le_succ (depAll x.l)⟩
instance instToDPair {α β : Type} [Enc α] [Enc β] [ToD α] [ToD β] : ToD (α × β) := ⟨fun x => .tuple [ToD.toD x.1, ToD.toD x.2], fun h => by
    obtain ⟨a, v1, v2, rfl, h1, h2, h3⟩ := h
    exact .tup h1 (.cons (ToD.dp h2) (.cons (ToD.dp h3) .nil)), fun h => by
    obtain ⟨a, v1, v2, rfl, h1, h2, h3⟩ := h
    show PyData.canLayAll0 [_, _] = true
    rw [PyData.canLayAll0, PyData.canLayAll0, PyData.canLayAll0, ToD.can h2, ToD.can h3]
    rfl, max (ToD.dep α) (ToD.dep β) + 1, fun x => by
    rw [PyData.depth, PyData.depthAll, PyData.depthAll, PyData.depthAll]
    have h1 := ToD.depth x.1
    have h2 := ToD.depth x.2
    omega⟩
instance : EqD Int := ⟨fun x y => by show (x == y) = _; rw [Bool.beq_eq_decide_eq]⟩
instance : EqD Bool := ⟨fun x y => by show (x == y) = _; rw [Bool.beq_eq_decide_eq]⟩
instance : EqD (List Nat) := ⟨fun x y => by
  show ((⟨⟨x⟩⟩ : Str) == ⟨⟨y⟩⟩) = _
  rw [Bool.eq_iff_iff, beq_iff_eq, decide_eq_true_iff]
  exact ⟨fun h => by injection h with h1; injection h1, fun h => by rw [h]⟩⟩
theorem eqvAll_eq {γ : Type} [Enc γ] [ToD γ] [DecidableEq γ] [EqD γ] : ∀ xs ys : List γ, PyData.eqvAll (xs.map ToD.toD) (ys.map ToD.toD) = decide (xs = ys)
  | [], [] => rfl
  | [], y :: ys => rfl
  | x :: xs, [] => rfl
  | x :: xs, y :: ys => by
    rw [List.map_cons, List.map_cons, PyData.eqvAll, EqD.eqv, eqvAll_eq xs ys]
    rw [Bool.eq_iff_iff, Bool.and_eq_true, decide_eq_true_iff, decide_eq_true_iff, decide_eq_true_iff, List.cons.injEq]
instance instEqDList {γ : Type} [Enc γ] [ToD γ] [DecidableEq γ] [EqD γ] : @EqD (List γ) encList _ _ := ⟨fun xs ys => eqvAll_eq xs ys⟩
instance {γ : Type} [DecidableEq γ] : DecidableEq (Tp γ) := fun x y => match x, y with
  | ⟨a⟩, ⟨b⟩ => if h : a = b then isTrue (by rw [h]) else isFalse (fun e => h (by injection e))
instance instEqDTp {γ : Type} [Enc γ] [ToD γ] [DecidableEq γ] [EqD γ] : EqD (Tp γ) := ⟨fun xs ys => by
  show PyData.eqvAll _ _ = _
  rw [eqvAll_eq, Bool.eq_iff_iff, decide_eq_true_iff, decide_eq_true_iff]
  exact ⟨fun h => by cases xs; cases ys; exact congrArg Tp.mk h, fun h => by rw [h]⟩⟩
instance instEqDPair {α β : Type} [Enc α] [Enc β] [ToD α] [ToD β] [DecidableEq α] [DecidableEq β] [EqD α] [EqD β] : EqD (α × β) := ⟨fun x y => by
  show PyData.eqvAll [_, _] [_, _] = _
  rw [PyData.eqvAll, PyData.eqvAll, PyData.eqvAll, EqD.eqv, EqD.eqv, Bool.and_true, Bool.eq_iff_iff, Bool.and_eq_true, decide_eq_true_iff, decide_eq_true_iff, decide_eq_true_iff]
  exact ⟨fun h => Prod.ext h.1 h.2, fun h => by rw [h]; exact ⟨rfl, rfl⟩⟩⟩
/-- the data of a value: frozen, or an owned list -/
def DA {α : Type} [Enc α] (K : FR) (O : OS) (x : α) (d : PyData) : Prop := ∀ F H v, Hd K F O H → rep K F v x → Dp K H v d ∧ SeqAt.shaped d = true
theorem shaped_of {d : PyData} (h1 : d.canLay0 = true) (h2 : d.depth ≤ 64) : SeqAt.shaped d = true := by
  unfold SeqAt.shaped
  rw [h1, decide_eq_true h2]
  rfl
theorem da_f {α : Type} [Enc α] [ToD α] {x : α} (h : ToD.dep α ≤ 64) : DA K O x (ToD.toD x) := fun F H v hS r => ⟨dp_same hS.ex (ToD.dp r), shaped_of (ToD.can r) (Nat.le_trans (ToD.depth x) h)⟩
theorem da_l {α γ : Type} [Enc α] [Enc γ] [ToD γ] {x : α} {xs : List γ} (hl : Lst K O x xs) (h : ToD.dep γ + 1 ≤ 64) : DA K O x (.list (xs.map ToD.toD)) := fun F H v hS r => by
  obtain ⟨p, ys, rfl, h1, h2⟩ := (hl _ _ r).read hS
  refine ⟨.lst (SqL.of h1) (by exact dpAll_of (pmono hS.ex h2)), shaped_of (canAll_of h2) ?_⟩
  rw [PyData.depth]
  exact Nat.le_trans (Nat.succ_le_succ (depAll xs)) h
theorem ev_eqD {α β : Type} [Enc α] [Enc β] {x : α} {y : β} {d d' : PyData} {b : Bool} (ha : Ev K ta σ F O O1 x) (hb : Ev K tb σ F O1 O2 y) (h1 : DA K O2 x d) (h2 : DA K O2 y d') (e : PyData.eqv d d' = b) : Ev K (tOp (rEqD K) ta tb) σ F O O2 b := by
  refine ev_op ha hb ?_
  intro F1 H1 v w e1 hS rv rw_ Q q
  obtain ⟨a1, a2⟩ := h1 F1 H1 v hS rv
  obtain ⟨b1, b2⟩ := h2 F1 H1 w hS rw_
  exact ⟨d, d', a1, b1, a2, b2, q _ F1 H1 (Same.refl _) hS (by rw [e]; rfl)⟩
theorem ev_neD {α β : Type} [Enc α] [Enc β] {x : α} {y : β} {d d' : PyData} {b : Bool} (ha : Ev K ta σ F O O1 x) (hb : Ev K tb σ F O1 O2 y) (h1 : DA K O2 x d) (h2 : DA K O2 y d') (e : PyData.eqv d d' = b) : Ev K (tOp (rNeD K) ta tb) σ F O O2 (!b) := by
  refine ev_op ha hb ?_
  intro F1 H1 v w e1 hS rv rw_ Q q
  obtain ⟨a1, a2⟩ := h1 F1 H1 v hS rv
  obtain ⟨b1, b2⟩ := h2 F1 H1 w hS rw_
  exact ⟨d, d', a1, b1, a2, b2, q _ F1 H1 (Same.refl _) hS (by rw [e]; rfl)⟩
/-- lists of one type -/
theorem ev_eqL {α β γ : Type} [Enc α] [Enc β] [Enc γ] [ToD γ] [DecidableEq γ] [EqD γ] {x : α} {y : β} {xs ys : List γ} (ha : Ev K ta σ F O O1 x) (hb : Ev K tb σ F O1 O2 y) (h1 : Lst K O2 x xs) (h2 : Lst K O2 y ys) (h : ToD.dep γ + 1 ≤ 64) : Ev K (tOp (rEqD K) ta tb) σ F O O2 (decide (xs = ys)) :=
  ev_eqD ha hb (da_l h1 h) (da_l h2 h) (by show PyData.eqvAll _ _ = _; exact eqvAll_eq xs ys)
theorem ev_neL {α β γ : Type} [Enc α] [Enc β] [Enc γ] [ToD γ] [DecidableEq γ] [EqD γ] {x : α} {y : β} {xs ys : List γ} (ha : Ev K ta σ F O O1 x) (hb : Ev K tb σ F O1 O2 y) (h1 : Lst K O2 x xs) (h2 : Lst K O2 y ys) (h : ToD.dep γ + 1 ≤ 64) : Ev K (tOp (rNeD K) ta tb) σ F O O2 (!decide (xs = ys)) :=
  ev_neD ha hb (da_l h1 h) (da_l h2 h) (by show PyData.eqvAll _ _ = _; exact eqvAll_eq xs ys)
theorem ev_eqF {α : Type} [Enc α] [ToD α] [DecidableEq α] [EqD α] {x y : α} (ha : Ev K ta σ F O O1 x) (hb : Ev K tb σ F O1 O2 y) (h : ToD.dep α ≤ 64) : Ev K (tOp (rEqD K) ta tb) σ F O O2 (decide (x = y)) := ev_eqD ha hb (da_f h) (da_f h) (EqD.eqv x y)
theorem ev_neF {α : Type} [Enc α] [ToD α] [DecidableEq α] [EqD α] {x y : α} (ha : Ev K ta σ F O O1 x) (hb : Ev K tb σ F O1 O2 y) (h : ToD.dep α ≤ 64) : Ev K (tOp (rNeD K) ta tb) σ F O O2 (!decide (x = y)) := ev_neD ha hb (da_f h) (da_f h) (EqD.eqv x y)
end
end G

namespace G
open PySem PySem.Spec PyProof.Rows L2
theorem start_is {t : TS} {D : Ends} {σ σ' : L2.St} {H : Hp} (e : σ = σ') (h : t D σ' H) : t D σ H := by
  rw [e]
  exact h
theorem if_t {α : Type} {b : Bool} {m n : Option α} {r : α} (hb : b = true) (h : (if b = true then m else n) = some r) : m = some r := by
  rw [if_pos hb] at h
  exact h
theorem if_f {α : Type} {b : Bool} {m n : Option α} {r : α} (hb : b = false) (h : (if b = true then m else n) = some r) : n = some r := by
  rw [if_neg (by rw [hb]; decide)] at h
  exact h
def lnOk {α : Type} (xs : List α) : Option Unit := if xs.length ≤ LN then some () else none
theorem lnOk_le {α : Type} {xs : List α} {u : Unit} (h : lnOk xs = some u) : xs.length ≤ LN := by
  unfold lnOk at h
  split at h
  · assumption
  · cases h
section
variable {K : FR} {σ : L2.St} {F F' H : Hp} {O O1 O2 O3 R : OS} {ta tb tc te : TE} {t u : TT} {D : Ends} {tz tu tw : TS}
theorem ev_lit {s : Str} {x : Tx} (e : s = ⟨⟨x⟩⟩) (h : TxOk x) : Ev K (tC (.str s)) σ F O O x := by
  subst e
  exact ev_c ⟨rfl, h⟩
theorem ev_is {α : Type} [Enc α] {x y : α} (h : Ev K te σ F O O1 x) (e : x = y) : Ev K te σ F O O1 y := by
  rw [← e]
  exact h
theorem q_augV {i : Nat} {f : Int → Int → Int} {a b : Int} {v : V} {σ' : L2.St} (hS : Hd K F O H) (hx : σ[i]? = some (some v)) (hv : rep K F v a) (h : Ev K te σ F O O1 b) (hσ : σ.set i (some (.int (f a b))) = σ') (k : ∀ F1 H1, Same F F1 → Hd K F1 O1 H1 → tz D σ' H1) :
    tSeq (tAug i te (ipI f)) tz D σ H := by
  cases (show v = .int a from hv)
  exact q_aug hS hx h hσ k
theorem q_break (h : D.bk σ H) : tSeq tBreak tz D σ H := h
theorem q_cont (e : D.ct = D.nx) (h : D.nx σ H) : tSeq tCont tz D σ H := by
  show D.ct σ H
  rw [e]
  exact h
theorem q_pass (h : tz D σ H) : tSeq tNext tz D σ H := h
theorem hd_ret {p : Addr × OD} (i : Nat) (hi : O[i]? = some p) (s : R.Sublist (O.eraseIdx i)) (h : Hd K F O H) : Hd K F (p :: R) H := (h.perm (perm_get hi)).sub (s.cons_cons _)
theorem hd_ret2 {p q : Addr × OD} (i j : Nat) (hi : O[i]? = some p) (hj : (O.eraseIdx i)[j]? = some q) (s : R.Sublist ((O.eraseIdx i).eraseIdx j)) (h : Hd K F O H) : Hd K F (p :: q :: R) H :=
  ((h.perm (perm_get hi)).perm ((perm_get hj).cons _)).sub ((s.cons_cons _).cons_cons _)
abbrev tTruth (K : FR) (ta : TE) : TT := fun σ H Q => ta σ H fun x H' => ∃ k, TruV K x H' k ∧ Q k H'
theorem evt_L {α γ : Type} [Enc α] [Enc γ] {x : α} {xs : List γ} (h : Ev K ta σ F O O1 x) (hl : Lst K O1 x xs) : EvT K (tTruth K ta) σ F O O1 (!xs.isEmpty) := fun F1 H1 e hS Q q =>
  h F1 H1 e hS _ fun v F2 H2 e2 g2 r => by
    obtain ⟨p, ys, rfl, h1, h2⟩ := (hl _ _ r).read g2
    have e3 : ys.isEmpty = xs.isEmpty := by cases h2 <;> rfl
    exact ⟨_, .inl ⟨ys, SqL.of h1, rfl⟩, by rw [e3]; exact q F2 H2 e2 g2⟩
theorem evt_S {x : Tx} (h : Ev K ta σ F O O1 x) : EvT K (tTruth K ta) σ F O O1 (!x.isEmpty) := fun F1 H1 e hS Q q =>
  h F1 H1 e hS _ fun v F2 H2 e2 g2 r => by
    obtain ⟨rfl, hl⟩ := r
    refine ⟨_, ⟨ln_size hl.1, rfl⟩, ?_⟩
    have e3 : (((⟨⟨x⟩⟩ : Str).length : Int) != 0) = !x.isEmpty := by
      show ((x.length : Int) != 0) = _
      cases x with
      | nil => rfl
      | cons a b =>
        rw [List.length_cons]
        show (((b.length + 1 : Nat) : Int) != 0) = true
        rw [bne_iff_ne]
        omega
    rw [e3]
    exact q F2 H2 e2 g2
end
end G
namespace G
instance encEmpty : Enc Empty := ⟨fun _ _ _ _ => False, fun _ h => h⟩
end G
namespace G
open PySem L2
theorem s_then {tz : TS} {D : Ends} {σ : L2.St} {H : Hp} (h : tz D σ H) : tNext { D with nx := tz D } σ H := h
end G
namespace G
open PySem L2
theorem rl {K : FR} {F : Hp} {l : Addr} : rep K F (.ref l) (Lc.mk l) := rfl
theorem ri {K : FR} {F : Hp} {i : Int} : rep K F (.int i) i := rfl
end G
namespace G
open PySem L2
theorem for_name {j : Nat} {v : V} {σ σ' : L2.St} {H : Hp} {tu : TS} {D : Ends} (e : σ.set j (some v) = σ') (h : tu D σ' H) : gName j v σ H fun σ2 H2 => tu D σ2 H2 := by
  show tu D (σ.set j (some v)) H
  rw [e]
  exact h
end G

namespace G
open PySem PySem.Spec PyProof.Rows L2
/-! ### written dicts with text keys -/
def keyS (e : DictEntry) : Str := match e.key with
  | .str x _ => x
  | _ => ⟨#[]⟩
def rKd (K : FR) (a : Addr) : R2 := fun x y H Q => ∃ (z : Str) (u0 : Value) (v0 : V), x = .ref a ∧ y = .str z ∧ PySem.W.nsIn K a z = some (some u0) ∧ RelV v0 u0 ∧ Q v0 H
theorem ix_kd {X : Cx} {a : Addr} {es : Array DictEntry} {n : Nat} (D : KDict X.K X.w a es n) : IxR X (rKd X.K a) := by
  intro value slice pins s σ H x y v u Q I rx ry h hs
  obtain ⟨z, u0, v0, rfl, rfl, e, r, q⟩ := h
  cases rx
  obtain ⟨t, rfl⟩ := ry
  refine tail_any (kd_type D I) PySem.F.slot_dict_getitem.lookup ?_ hs
  exact wpAny_getItem_of (PySem.strKind_is X.prog X.w z t) (PySem.W.mapOf_K (prog := X.prog) I.kIn D.at_ D.lit) (PySem.W.find_K D.at_ e) ⟨v0, H, I.tok _, r, q⟩
theorem pairs_of {P : Params} {prog : Program} {w : World} : ∀ {l : List DictEntry}, PySem.W.KeysLit P l → Pairs (strKind prog w) l (l.map fun e => (keyS e, e.val))
  | [], _ => .nil
  | e :: r, ⟨⟨x, t, h1, _⟩, h2⟩ => .cons (by
    show (strKind prog w).is (keyS e) e.key = true
    have : keyS e = x := by unfold keyS; rw [h1]
    rw [this, h1]
    exact PySem.strKind_is prog w x t) rfl (pairs_of h2)
theorem dictOf_kd {K : FR} {w : World} {a : Addr} {es : Array DictEntry} {n : Nat} {prog : Program} {h : Heap} (D : KDict K w a es n) (X : K.In h) (nd : (es.toList.map keyS).Nodup) : h.DictOf (strKind prog w) a (es.toList.map fun e => (keyS e, e.val)) :=
  ⟨_, es, n, X _ _ D.at_, ⟨rfl, rfl, rfl⟩, rfl, fun e he => by
    obtain ⟨x, t, e1, e2⟩ := D.lit.all e (Array.mem_toList_iff.mpr he)
    exact ⟨x, by rw [e1]; exact PySem.strKind_is prog w x t, e2⟩, pairs_of D.lit, by
    rw [List.map_map]
    exact nd⟩
def rLenKd (a : Addr) (m : Nat) : List V → Hp → VK → Prop := fun xs H Q => xs = [.ref a] ∧ Q (.int (m : Int)) H
theorem call_len_kd {X : Cx} {a : Addr} {es : Array DictEntry} {n : Nat} (D : KDict X.K X.w a es n) (nd : (es.toList.map keyS).Nodup) (hz : es.toList.length < 2 ^ 62) : CallR X (.builtin "len") (rLenKd a es.toList.length) := by
  intro pins s σ H xs us Q I r h
  obtain ⟨rfl, q⟩ := h
  rw [Vals.ref1 r]
  refine call_len_dict D.low (dictOf_kd D I.kIn nd) ?_ ?_
  · rw [List.length_map]
    omega
  · rw [List.length_map]
    exact ⟨.int _, H, (I.tok _), ⟨_, rfl⟩, q⟩
section
variable {K : FR} {σ : L2.St} {F F' H : Hp} {O O1 O2 O3 : OS} {ta tb tc te : TE}
theorem ev_ixKd {a : Addr} {x : Tx} {s : Str} {i : Int} {u : Value} (es : s = ⟨⟨x⟩⟩) (ha : Ev K ta σ F O O1 (Lc.mk a)) (hb : Ev K tb σ F O1 O2 x) (h : PySem.W.nsIn K a s = some (some u)) (hu : ∃ t, u = .int i t) : Ev K (tOp (rKd K a) ta tb) σ F O O2 i := by
  subst es
  refine ev_op ha hb ?_
  intro F1 H1 v w e hS rv rw_ Q q
  cases rv
  obtain ⟨rfl, _⟩ := rw_
  exact ⟨⟨⟨x⟩⟩, u, .int i, rfl, rfl, h, hu, q _ F1 H1 (Same.refl _) hS rfl⟩
theorem ev_lenKd {a : Addr} {m : Nat} (h : Ev K ta σ F O O1 (Lc.mk a)) : Ev K (tCB (rLenKd a m) (tCons ta tNil)) σ F O O1 (m : Int) := by
  refine ev_cb (ea_cons h ea_nil) ?_
  intro F1 H1 vs e hS r Q q
  obtain ⟨v, _, rfl, rv, rfl⟩ := r
  cases rv
  exact ⟨rfl, q _ F1 H1 (Same.refl _) hS rfl⟩
end
end G

/-! G: what mirrors end with. -/
namespace G
open PySem L2
def Tot {α : Type} (m : Option α) (P : α → Prop) : Prop := ∃ x, m = some x ∧ P x
section
variable {α β S R : Type} {P Q : α → Prop}
theorem tot_some {x : α} (h : P x) : Tot (some x) P := ⟨x, rfl, h⟩
theorem tot_eq {m : Option α} {x : α} (h : m = some x) : Tot m (fun y => y = x) := ⟨x, h, rfl⟩
theorem Tot.imp {m : Option α} (h : Tot m P) (k : ∀ x, P x → Q x) : Tot m Q := let ⟨x, e, p⟩ := h; ⟨x, e, k x p⟩
theorem Tot.is {m : Option α} {x : α} (h : Tot m (fun y => y = x)) : m = some x := let ⟨_, e, p⟩ := h; by rw [e, p]
theorem tot_bind {m : Option α} {f : α → Option β} {Q : β → Prop} (h : Tot m P) (k : ∀ x, P x → Tot (f x) Q) : Tot (Option.bind m f) Q := by
  obtain ⟨x, e, p⟩ := h
  rw [e]
  exact k x p
theorem tot_if {b : Bool} {m n : Option α} (h1 : b = true → Tot m P) (h2 : b = false → Tot n P) : Tot (if b = true then m else n) P := by
  cases b with
  | true => exact h1 rfl
  | false => exact h2 rfl
theorem tot_gAnd {a : Bool} {m : Option Bool} {P : Bool → Prop} (h1 : a = true → Tot m P) (h2 : a = false → P false) : Tot (gAnd a m) P := by
  unfold gAnd
  cases a with
  | true => exact h1 rfl
  | false => exact ⟨false, rfl, h2 rfl⟩
theorem tot_gOr {a : Bool} {m : Option Bool} {P : Bool → Prop} (h1 : a = false → Tot m P) (h2 : a = true → P true) : Tot (gOr a m) P := by
  unfold gOr
  cases a with
  | false => exact h1 rfl
  | true => exact ⟨true, rfl, h2 rfl⟩
/-- an invariant over what is done and what is left -/
theorem tot_forS {body : S → α → Option S} (I : List α → List α → S → Prop) : ∀ (xs : List α) (done : List α) (s : S), I done xs s → (∀ d x r s, d ++ x :: r = done ++ xs → I d (x :: r) s → Tot (body s x) (I (d ++ [x]) r)) → Tot (forS body xs s) (I (done ++ xs) [])
  | [], done, s, h0, _ => ⟨s, rfl, by rw [List.append_nil]; exact h0⟩
  | x :: xs, done, s, h0, hs => by
    obtain ⟨s', e, h1⟩ := hs done x xs s rfl h0
    have h2 := tot_forS I xs (done ++ [x]) s' h1 (fun d y r t e => hs d y r t (by rw [e, List.append_assoc]; rfl))
    obtain ⟨t, e2, h3⟩ := h2
    refine ⟨t, ?_, by rw [List.append_assoc] at h3; exact h3⟩
    show (body s x).bind (fun s' => forS body xs s') = some t
    rw [e]
    exact e2
/-- without a word of the place -/
theorem tot_forS1 {body : S → α → Option S} {xs : List α} {s : S} (I : S → Prop) (h0 : I s) (hs : ∀ s x, x ∈ xs → I s → Tot (body s x) I) : Tot (forS body xs s) I :=
  tot_forS (fun _ _ s => I s) xs [] s h0 fun d x r s e h => hs s x (by
    have e : d ++ x :: r = xs := e
    rw [← e]
    simp) h
theorem tot_forC1 {body : S → α → Option (Ctl S R)} (I : S → Prop) (P : Ctl S R → Prop) : ∀ {xs : List α} {s : S}, I s → (∀ s x, x ∈ xs → I s → Tot (body s x) fun c => match c with | .nx s' => I s' | c => P c) → (∀ s, I s → P (.nx s)) → Tot (forC body xs s) P
  | [], s, h0, _, hn => ⟨.nx s, rfl, hn s h0⟩
  | x :: xs, s, h0, hs, hn => by
    obtain ⟨c, e, h1⟩ := hs s x List.mem_cons_self h0
    unfold forC
    rw [e]
    cases c with
    | nx s' => exact tot_forC1 I P (s := s') h1 (fun s y hy => hs s y (List.mem_cons_of_mem _ hy)) hn
    | bk s' => exact ⟨_, rfl, h1⟩
    | rt r => exact ⟨_, rfl, h1⟩
/-- by the number of items left -/
theorem tot_forCn {body : S → α → Option (Ctl S R)} (I : Nat → S → Prop) (P : Ctl S R → Prop) (hn : ∀ s, I 0 s → P (.nx s)) : ∀ {xs : List α} {s : S}, I xs.length s → (∀ n s x, x ∈ xs → I (n + 1) s → Tot (body s x) fun c => match c with | .nx s' => I n s' | c => P c) → Tot (forC body xs s) P
  | [], s, h0, _ => ⟨.nx s, rfl, hn s h0⟩
  | x :: xs, s, h0, hs => by
    obtain ⟨c, e, h1⟩ := hs _ s x List.mem_cons_self h0
    unfold forC
    rw [e]
    cases c with
    | nx s' => exact tot_forCn I P hn (s := s') h1 (fun n s y hy => hs n s y (List.mem_cons_of_mem _ hy))
    | bk s' => exact ⟨_, rfl, h1⟩
    | rt r => exact ⟨_, rfl, h1⟩
theorem tot_forSn {body : S → α → Option S} (I : Nat → S → Prop) : ∀ {xs : List α} {s : S}, I xs.length s → (∀ n s x, x ∈ xs → I (n + 1) s → Tot (body s x) (I n)) → Tot (forS body xs s) (I 0)
  | [], s, h0, _ => ⟨s, rfl, h0⟩
  | x :: xs, s, h0, hs => by
    obtain ⟨s', e, h1⟩ := hs _ s x List.mem_cons_self h0
    show Tot ((body s x).bind fun s' => forS body xs s') _
    rw [e]
    exact tot_forSn I (s := s') h1 (fun n s y hy => hs n s y (List.mem_cons_of_mem _ hy))
theorem tot_whileS {cond : S → Option Bool} {body : S → Option S} (I : S → Prop) (μ : S → Nat) (c : S → Bool) (hc : ∀ s, I s → cond s = some (c s)) (hs : ∀ s, I s → c s = true → Tot (body s) fun s' => I s' ∧ μ s' < μ s) :
    ∀ (n : Nat) (s : S), I s → μ s < n → Tot (whileS cond body n s) fun s' => I s' ∧ c s' = false
  | 0, s, _, h => by omega
  | n + 1, s, h0, hm => by
    unfold whileS
    rw [hc s h0]
    cases e : c s with
    | false => exact ⟨s, rfl, h0, e⟩
    | true =>
      obtain ⟨s', e1, h1, h2⟩ := hs s h0 e
      show Tot ((body s).bind fun s' => whileS cond body n s') _
      rw [e1]
      exact tot_whileS I μ c hc hs n s' h1 (by omega)
/-- a comprehension: a state kept, each item told -/
theorem tot_compC {f : S → α → Option (S × Option β)} (I : S → Prop) (P : β → Prop) : ∀ {xs : List α} {s : S}, I s → (∀ s x, x ∈ xs → I s → Tot (f s x) fun r => I r.1 ∧ ∃ y, r.2 = some y ∧ P y) → Tot (compC f xs s) fun r => I r.1 ∧ r.2.length = xs.length ∧ ∀ y ∈ r.2, P y
  | [], s, h0, _ => ⟨(s, []), rfl, h0, rfl, fun y hy => by cases hy⟩
  | x :: xs, s, h0, hs => by
    obtain ⟨r, e, h1, y, h2, h3⟩ := hs s x List.mem_cons_self h0
    obtain ⟨q, e2, h4, h5, h6⟩ := tot_compC I P (xs := xs) (s := r.1) h1 fun s y hy => hs s y (List.mem_cons_of_mem _ hy)
    refine ⟨(q.1, r.2.toList ++ q.2), ?_, h4, ?_, fun z hz => ?_⟩
    · unfold compC
      rw [e]
      show (compC f xs r.1).map _ = _
      rw [e2]
      rfl
    · rw [h2]
      show (y :: q.2).length = _
      rw [List.length_cons, List.length_cons, h5]
    · rw [h2] at hz
      rcases List.mem_cons.mp (show z ∈ y :: q.2 from hz) with h | h
      · rw [h]
        exact h3
      · exact h6 z h
/-- a pure one is filterMap -/
theorem compC_pure {f : Unit → α → Option (Unit × Option β)} {g : α → Option β} : ∀ {xs : List α}, (∀ x ∈ xs, f () x = some ((), g x)) → compC f xs () = some ((), xs.filterMap g)
  | [], _ => rfl
  | x :: xs, h => by
    unfold compC
    rw [h x List.mem_cons_self]
    show (compC f xs ()).map _ = _
    rw [compC_pure fun y hy => h y (List.mem_cons_of_mem _ hy)]
    show some ((), (g x).toList ++ xs.filterMap g) = _
    cases hg : g x with
    | none => rw [List.filterMap_cons_none hg]; rfl
    | some y => rw [List.filterMap_cons_some hg]; rfl
theorem lnOk_of {xs : List α} (h : xs.length ≤ LN) : lnOk xs = some () := if_pos h
theorem catL_of {xs ys : List α} (h : xs.length + ys.length ≤ LN) : catL xs ys = some (xs ++ ys) := if_pos h
theorem catS_of {xs ys : Tx} (h : xs.length + ys.length ≤ LN) : catS xs ys = some (xs ++ ys) := if_pos h
theorem appL_of {xs : List α} {x : α} (h : xs.length < LN) : appL xs x = some (xs ++ [x]) := if_pos h
theorem joinS_of {s : Tx} {xs : List Tx} (h : (xs.map (·.length)).sum + xs.length * s.length ≤ LN) : joinS s xs = some (joinL s xs) := if_pos h
theorem rng1_of {n : Int} (h1 : 0 ≤ n) (h2 : n ≤ 1000000000) : rng1 n = some (rngI 0 n.toNat) := if_pos ⟨by omega, by omega⟩
theorem rng2_of {a b : Int} (h1 : -1000000000 ≤ a) (h2 : a ≤ 1000000000) (h3 : -1000000000 ≤ b) (h4 : b ≤ 1000000000) : rng2 a b = some (rngI a (b - a).toNat) := if_pos ⟨by omega, by omega, by omega, by omega⟩
theorem mulI_l {i j : Int} (h1 : -(2 ^ 64) < i) (h2 : i < 2 ^ 64) : mulI i j = some (i * j) := if_pos (.inl ⟨h1, h2⟩)
theorem mulI_r {i j : Int} (h1 : -(2 ^ 64) < j) (h2 : j < 2 ^ 64) : mulI i j = some (i * j) := if_pos (.inr ⟨h1, h2⟩)
theorem modI_of {i j : Int} (h : 0 < j) : modI i j = some (i % j) := if_pos h
theorem atI_nat' {xs : List α} {n : Nat} : atI xs (n : Int) = xs[n]? := by
  rcases Nat.lt_or_ge n xs.length with h | h
  · rw [List.getElem?_eq_getElem h]
    exact atI_nat (List.getElem?_eq_getElem h)
  · rw [List.getElem?_eq_none h]
    unfold atI ixN
    rw [if_pos (by omega), if_neg (by omega)]
    rfl
theorem atI_at {xs : List α} {i : Int} (h : 0 ≤ i) : atI xs i = xs[i.toNat]? := by
  obtain ⟨n, rfl⟩ := Int.eq_ofNat_of_zero_le h
  rw [show ((n : Int)).toNat = n by omega]
  exact atI_nat'
theorem ixS_at {x : Tx} {i : Int} (h : 0 ≤ i) : ixS x i = (x[i.toNat]?).map fun c => [c] := by
  unfold ixS
  rw [atI_at h]
theorem ixS_lt {x : Tx} {i : Int} (h : 0 ≤ i) (h2 : i < x.length) : ixS x i = some [x[i.toNat]'(by omega)] := by
  rw [ixS_at h, List.getElem?_eq_getElem (by omega)]
  rfl
theorem ixS_n {x : Tx} {n : Nat} (h : n < x.length) : ixS x (n : Int) = some [x[n]] := by
  unfold ixS
  rw [atI_nat', List.getElem?_eq_getElem h]
  rfl
theorem rngI_len {lo : Int} {n : Nat} : (rngI lo n).length = n := by
  unfold rngI
  rw [List.length_map, List.length_range]
theorem mem_rngI {lo x : Int} {n : Nat} : x ∈ rngI lo n ↔ lo ≤ x ∧ x < lo + n := by
  unfold rngI
  rw [List.mem_map]
  constructor
  · rintro ⟨i, hi, rfl⟩
    rw [List.mem_range] at hi
    omega
  · rintro ⟨h1, h2⟩
    exact ⟨(x - lo).toNat, by rw [List.mem_range]; omega, by omega⟩
end
/-! ### drawing -/
/-- draws as they are: not none, each below 1009 -/
structure Draws (ds : List Int) : Prop where
  pos : 0 < ds.length
  small : ∀ d ∈ ds, 0 ≤ d ∧ d < 1009
theorem Draws.get {ds : List Int} (h : Draws ds) {i : Int} (h0 : 0 ≤ i) (h1 : i < ds.length) : ∃ d, atI ds i = some d ∧ 0 ≤ d ∧ d < 1009 := by
  have hl : i.toNat < ds.length := by omega
  refine ⟨ds[i.toNat], ?_, h.small _ (List.getElem_mem hl)⟩
  rw [atI_at h0, List.getElem?_eq_getElem hl]
/-- the counter of the draws -/
def At (a : List Int) : Prop := ∃ n : Int, 0 ≤ n ∧ a = [n]
end G


namespace K00
open PySem PySem.Spec PyProof.Rows L2 G
def c0 : List Nat := [97, 98, 99, 100, 101, 102, 103, 104, 105, 106, 107, 108, 109, 110, 111, 112, 113, 114, 115, 116, 117, 118, 119, 120, 121, 122]
def c1 : List Nat := [48, 49, 50, 51, 52, 53, 54, 55, 56, 57]
def c2 : List Nat := [97, 98, 99, 100, 101, 102, 103, 104, 105, 106, 107, 108, 109, 110, 111, 112, 113, 114, 115, 116, 117, 118, 119, 120, 121, 122, 48, 49, 50, 51, 52, 53, 54, 55, 56, 57]
def c3 : List Nat := [48]
def c4 : List Nat := [61, 61]
def c5 : List Nat := [32]
def c6 : List Nat := [10]
def c7 : List Nat := [32, 33, 34, 35, 36, 38, 39, 40, 41, 42, 43, 44, 45, 46, 47, 48, 49, 50, 51, 52, 53, 54, 55, 56, 57, 58, 59, 60, 61, 62, 63, 64, 65, 66, 67, 68, 69, 70, 71, 72, 73, 74, 75, 76, 77, 78, 79, 80, 81, 82, 83, 84, 85, 86, 87, 88, 89, 90, 91, 92, 93, 94, 95, 96]
def c8 : List Nat := [97, 98, 99, 100, 101, 102, 103, 104, 105, 106, 107, 108, 109, 110, 111, 112, 113, 114, 115, 116, 117, 118, 119, 120, 121, 122, 123, 124, 125, 126, 10]
def c9 : List Nat := [99, 97, 108, 108]
def c10 : List Nat := [100, 111]
def c11 : List Nat := [101, 108, 115, 101]
def c12 : List Nat := [102, 97, 108, 115, 101]
def c13 : List Nat := [102, 117, 110]
def c14 : List Nat := [105, 102]
def c15 : List Nat := [108, 101, 116]
def c16 : List Nat := [112, 114, 105, 110, 116]
def c17 : List Nat := [114, 101, 97, 100]
def c18 : List Nat := [114, 101, 116, 117, 114, 110]
def c19 : List Nat := [114, 111, 119]
def c20 : List Nat := [115, 101, 116]
def c21 : List Nat := [115, 105, 122, 101]
def c22 : List Nat := [116, 114, 117, 101]
def c23 : List Nat := [119, 104, 105, 108, 101]
def c24 : List Nat := [33]
def c25 : List Nat := [38]
def c26 : List Nat := [40]
def c27 : List Nat := [41]
def c28 : List Nat := [42]
def c29 : List Nat := [43]
def c30 : List Nat := [44]
def c31 : List Nat := [45]
def c32 : List Nat := [47]
def c33 : List Nat := [59]
def c34 : List Nat := [60]
def c35 : List Nat := [61]
def c36 : List Nat := [91]
def c37 : List Nat := [93]
def c38 : List Nat := [123]
def c39 : List Nat := [124]
def c40 : List Nat := [125]
def c41 : List Nat := []
def c42 : List Nat := [32, 10]
def c43 : List Nat := [107, 101, 121, 119, 111, 114, 100]
def c44 : List Nat := [115, 121, 109, 98, 111, 108]
def c45 : List Nat := [110, 97, 109, 101]
def c46 : List Nat := [110, 117, 109, 98, 101, 114]
def c47 : List Nat := [111, 116, 104, 101, 114]
def c48 : List Nat := [97, 98, 48, 49, 57, 122, 32, 61, 61, 32, 32, 61, 59, 10]
def c49 : List Nat := [97, 48, 98, 49, 57, 99, 122]
def c50 : List Nat := [97]
def c51 : List Nat := [90]
def c52 : List Nat := [57]
def c53 : List Nat := [48, 48]
def c54 : List Nat := [97, 95, 98]
def c55 : List Nat := [61, 61, 61]
def k_KEYWORDS : List (List Nat) := [[99, 97, 108, 108], [100, 111], [101, 108, 115, 101], [102, 97, 108, 115, 101], [102, 117, 110], [105, 102], [108, 101, 116], [112, 114, 105, 110, 116], [114, 101, 97, 100], [114, 101, 116, 117, 114, 110], [114, 111, 119], [115, 101, 116], [115, 105, 122, 101], [116, 114, 117, 101], [119, 104, 105, 108, 101]]
def k_SYMBOLS : List (List Nat) := [[33], [38], [40], [41], [42], [43], [44], [45], [47], [59], [60], [61], [61, 61], [91], [93], [123], [124], [125]]
def m_is_name (p_word : (List Nat)) : Option Bool :=
Option.bind (gOr (!(decide ((1 : Int) ≤ (p_word.length : Int)) && decide ((p_word.length : Int) ≤ (12 : Int)))) (Option.bind (ixS p_word (0 : Int)) fun t1 =>
Option.bind (inC t1 c0) fun t2 =>
some ((!t2) || (isIn p_word (Tp.mk k_KEYWORDS).l)))) fun t3 =>
if t3 then
some false
else
Option.bind (compC (fun (s7 : Unit) (x6 : (List Nat)) =>
Option.bind (inC x6 c2) fun t11 =>
some ((), some (t11))) (p_word.map fun c => [c]) ()) fun t12 =>
Option.bind (lnOk t12.2) fun nt12 =>
some (t12.2.all id)
def m_is_number (p_word : (List Nat)) : Option Bool :=
Option.bind (gOr (!(decide ((1 : Int) ≤ (p_word.length : Int)) && decide ((p_word.length : Int) ≤ (9 : Int)))) (Option.bind (ixS p_word (0 : Int)) fun t1 =>
some ((decide (t1 = c3)) && (decide ((1 : Int) < (p_word.length : Int)))))) fun t2 =>
if t2 then
some false
else
Option.bind (compC (fun (s6 : Unit) (x5 : (List Nat)) =>
Option.bind (inC x5 c1) fun t10 =>
some ((), some (t10))) (p_word.map fun c => [c]) ()) fun t11 =>
Option.bind (lnOk t11.2) fun nt11 =>
some (t11.2.all id)
def m_split_words (p_text : (List Nat)) : Option (List (List Nat)) :=
Option.bind (whileS (fun (s8 : Int × (List (List Nat))) => some (decide (s8.1 < (p_text.length : Int)))) (fun (s8 : Int × (List (List Nat))) =>
Option.bind (ixS p_text s8.1) fun t23 =>
Option.bind (inC t23 c2) fun t24 =>
Option.bind (if (t24) then
Option.bind (whileS (fun (s31 : Int) => Option.bind (gAnd (decide (s31 < (p_text.length : Int))) (Option.bind (ixS p_text s31) fun t41 =>
Option.bind (inC t41 c2) fun t42 =>
some (t42))) fun t43 =>
some t43) (fun (s31 : Int) =>
some (s31 + (1 : Int))) 100000 (s8.1 + (1 : Int))) fun s33 =>
some s33
else
if (decide ((cut p_text (some s8.1) (some (s8.1 + (2 : Int)))) = c4)) then
some (s8.1 + (2 : Int))
else
some (s8.1 + (1 : Int)) : Option (Int)) fun s25 =>
Option.bind (ixS p_text s8.1) fun t58 =>
Option.bind (gAnd (!decide (t58 = c5)) (Option.bind (ixS p_text s8.1) fun t59 =>
some (!decide (t59 = c6)))) fun t60 =>
Option.bind (if t60 then
Option.bind (appL s8.2 (cut p_text (some s8.1) (some s25))) fun t66 =>
some t66
else
some s8.2 : Option ((List (List Nat)))) fun s61 =>
some (s25, s61)) 100000 ((0 : Int), ([] : (List (List Nat))))) fun s11 =>
some s11.2
def m__law_draws (p_script : Scr) (p_count : Int) : Option (List Int) :=
Option.bind (forS (fun (s8 : Int × (List Int)) (x17 : Int) =>
Option.bind (mulI s8.1 (48271 : Int)) fun t25 =>
Option.bind (rng1 (60 : Int)) fun xs30 =>
Option.bind (forC (R := Empty) (fun (s31 : Int × (List Int)) (x38 : Int) =>
if (((decide (s31.1 < (1000000000000000000 : Int))) && (decide (x38 = (0 : Int)))) || (decide (s31.1 = (0 : Int)))) then
some (.bk (s31.1, s31.2))
else
Option.bind (appL s31.2 (s31.1 % (1009 : Int))) fun t44 =>
some (.nx ((s31.1 / (1009 : Int)), t44))) xs30 ((if x17 < 0 then -x17 else x17), s8.2)) fun c34 =>
match c34 with
| .nx s51 =>
some ((((t25 + ((if x17 < 0 then -x17 else x17) % (2147483647 : Int))) + (1 : Int)) % (2147483647 : Int)), s51.2)
| .bk s52 =>
some ((((t25 + ((if x17 < 0 then -x17 else x17) % (2147483647 : Int))) + (1 : Int)) % (2147483647 : Int)), s52.2)
| .rt r53 => nomatch r53) p_script.l ((41 : Int), ([] : (List Int)))) fun s13 =>
Option.bind (rng1 (if (p_count - (s13.2.length : Int)) > (1 : Int) then (p_count - (s13.2.length : Int)) else (1 : Int))) fun xs68 =>
Option.bind (forS (fun (s69 : Int × (List Int)) (x76 : Int) =>
Option.bind (mulI s69.1 (69621 : Int)) fun t80 =>
Option.bind (mulI (((t80 + (5 : Int)) % (2147483647 : Int)) % (2039 : Int)) (7 : Int)) fun t85 =>
Option.bind (appL s69.2 (((((t80 + (5 : Int)) % (2147483647 : Int)) / (8 : Int)) + t85) % (1009 : Int))) fun t86 =>
some (((t80 + (5 : Int)) % (2147483647 : Int)), t86)) xs68 (s13.1, s13.2)) fun s72 =>
some s72.2
def m__law_take (p_draws : (List Int)) (p_at : (List Int)) (p_many : Int) : Option (Int × (List Int)) :=
Option.bind (atI p_at (0 : Int)) fun t1 =>
Option.bind (setI p_at (0 : Int) (t1 + (1 : Int))) fun t2 =>
Option.bind (atI t2 (0 : Int)) fun t5 =>
Option.bind (modI (t5 - (1 : Int)) (p_draws.length : Int)) fun t6 =>
Option.bind (atI p_draws t6) fun t7 =>
Option.bind (modI t7 p_many) fun t8 =>
some (t8, t2)
def m__law_signs  : Option (List Nat) :=
Option.bind (catS c7 c8) fun t5 =>
some t5
def m__law_keywords  : Option (List (List Nat)) :=
Option.bind (catL ([c9, c10, c11, c12, c13, c14, c15, c16, c17, c18, c19, c20, c21] : (List (List Nat))) ([c22, c23] : (List (List Nat)))) fun t5 =>
some t5
def m__law_symbols  : Option (List (List Nat)) :=
some ([c24, c25, c26, c27, c28, c29, c30, c31, c32, c33, c34, c35, c4, c36, c37, c38, c39, c40] : (List (List Nat)))
def m__law_words (p_text : (List Nat)) : Option (List (List Nat)) :=
Option.bind (rng1 (p_text.length : Int)) fun xs16 =>
Option.bind (forS (fun (s17 : (List Nat) × Bool × (List (List Nat))) (x25 : Int) =>
Option.bind (ixS p_text x25) fun t29 =>
Option.bind (inC t29 c2) fun t30 =>
if (t30) then
Option.bind (ixS p_text x25) fun t33 =>
Option.bind (catS s17.1 t33) fun t34 =>
some (t34, s17.2.1, s17.2.2)
else
Option.bind (if (!decide (s17.1 = c41)) then
Option.bind (appL s17.2.2 s17.1) fun t44 =>
some t44
else
some s17.2.2 : Option ((List (List Nat)))) fun s39 =>
if s17.2.1 then
some (c41, false, s39)
else
Option.bind (ixS p_text x25) fun t59 =>
Option.bind (gAnd (decide (t59 = c35)) (Option.bind (gAnd (decide ((x25 + (1 : Int)) < (p_text.length : Int))) (Option.bind (ixS p_text (x25 + (1 : Int))) fun t60 =>
some (decide (t60 = c35)))) fun t61 =>
some t61)) fun t62 =>
if t62 then
Option.bind (appL s39 c4) fun t65 =>
some (c41, true, t65)
else
Option.bind (ixS p_text x25) fun t72 =>
Option.bind (inC t72 c42) fun t73 =>
if (!t73) then
Option.bind (ixS p_text x25) fun t76 =>
Option.bind (appL s39 t76) fun t77 =>
some (c41, s17.2.1, t77)
else
some (c41, s17.2.1, s39)) xs16 (c41, false, ([] : (List (List Nat))))) fun s21 =>
Option.bind (compC (fun (s86 : Unit) (x85 : (List Nat)) =>
if (!decide (x85 = c41)) then
some ((), some x85)
else some ((), none)) ([s21.1] : (List (List Nat))) ()) fun t90 =>
Option.bind (lnOk t90.2) fun nt90 =>
Option.bind (catL s21.2.2 t90.2) fun t92 =>
some t92
def m_word_class (p_word : (List Nat)) : Option (List Nat) :=
if (isIn p_word (Tp.mk k_KEYWORDS).l) then
some c43
else
if (isIn p_word (Tp.mk k_SYMBOLS).l) then
some c44
else
Option.bind (m_is_name p_word) fun t5 =>
if t5 then
some c45
else
Option.bind (m_is_number p_word) fun t8 =>
if t8 then
some c46
else
some c47
def m__law_class (p_word : (List Nat)) : Option (List Nat) :=
Option.bind (m__law_keywords ) fun t1 =>
if (isIn p_word t1) then
some c43
else
Option.bind (m__law_symbols ) fun t4 =>
if (isIn p_word t4) then
some c44
else
Option.bind (compC (fun (s8 : Unit) (x7 : (List Nat)) =>
Option.bind (inC x7 c1) fun t12 =>
if (t12) then
some ((), some x7)
else some ((), none)) (p_word.map fun c => [c]) ()) fun t13 =>
Option.bind (lnOk t13.2) fun nt13 =>
Option.bind (compC (fun (s20 : Unit) (x19 : (List Nat)) =>
Option.bind (inC x19 c0) fun t24 =>
if (t24) then
some ((), some x19)
else some ((), none)) (p_word.map fun c => [c]) ()) fun t25 =>
Option.bind (lnOk t25.2) fun nt25 =>
if ((decide ((p_word.length : Int) = (0 : Int))) || (decide (((t13.2.length : Int) + (t25.2.length : Int)) < (p_word.length : Int)))) then
some c47
else
Option.bind (ixS p_word (0 : Int)) fun t33 =>
Option.bind (inC t33 c1) fun t34 =>
if ((!t34) && (decide ((p_word.length : Int) < (13 : Int)))) then
some c45
else
Option.bind (gAnd (decide ((t25.2.length : Int) = (0 : Int))) (Option.bind (gAnd (decide ((p_word.length : Int) < (10 : Int))) (Option.bind (ixS p_word (0 : Int)) fun t37 =>
some ((!decide (t37 = c3)) || (decide (p_word = c3))))) fun t38 =>
some t38)) fun t39 =>
if t39 then
some c46
else
some c47
def m__law_right (p_word : (List Nat)) : Option Bool :=
Option.bind (m__law_class p_word) fun t1 =>
Option.bind (m_word_class p_word) fun t6 =>
Option.bind (m_is_name p_word) fun t11 =>
Option.bind (m_is_number p_word) fun t16 =>
if ((!true) || ((!true) || (!true))) then
some false
else
some ((decide (t6 = t1)) && ((decide (t11 = (decide (t1 = c45)))) && (decide (t16 = (decide (t1 = c46))))))
def m_law (p_script : Scr) : Option Bool :=
Option.bind (m__law_draws p_script (110 : Int)) fun t1 =>
Option.bind (m__law_signs ) fun t9 =>
Option.bind (m__law_take t1 ([(0 : Int)] : (List Int)) (2 : Int)) fun t14 =>
Option.bind (if (decide (t14.1 = (1 : Int))) then
Option.bind (m__law_take t1 t14.2 (95 : Int)) fun t21 =>
Option.bind (ixS t9 t21.1) fun t22 =>
Option.bind (catS c48 t22) fun t23 =>
some (t23, t21.2)
else
some (t9, t14.2) : Option ((List Nat) × (List Int))) fun s15 =>
Option.bind (m__law_take t1 s15.2 (71 : Int)) fun t30 =>
Option.bind (rng1 t30.1) fun xs35 =>
Option.bind (compC (fun (s37 : (List Int)) (x36 : Int) =>
Option.bind (m__law_take t1 s37 (s15.1.length : Int)) fun t41 =>
Option.bind (ixS s15.1 t41.1) fun t42 =>
some (t41.2, some t42)) xs35 t30.2) fun t43 =>
Option.bind (lnOk t43.2) fun nt43 =>
Option.bind (joinS c41 t43.2) fun t45 =>
Option.bind (m_split_words t45) fun t50 =>
Option.bind (gOr (!true) (Option.bind (m__law_words t45) fun t55 =>
some (!decide ((t50 : (List (List Nat))) = t55)))) fun t56 =>
if t56 then
some false
else
Option.bind (m__law_take t1 t43.1 (14 : Int)) fun t59 =>
Option.bind (rng1 ((1 : Int) + t59.1)) fun xs60 =>
Option.bind (compC (fun (s62 : (List Int)) (x61 : Int) =>
Option.bind (m__law_take t1 s62 (7 : Int)) fun t66 =>
Option.bind (ixS c49 t66.1) fun t67 =>
some (t66.2, some t67)) xs60 t59.2) fun t68 =>
Option.bind (lnOk t68.2) fun nt68 =>
Option.bind (joinS c41 t68.2) fun t70 =>
Option.bind (m__law_take t1 t68.1 (11 : Int)) fun t75 =>
Option.bind (rng1 ((1 : Int) + t75.1)) fun xs76 =>
Option.bind (compC (fun (s78 : (List Int)) (x77 : Int) =>
Option.bind (m__law_take t1 s78 (10 : Int)) fun t82 =>
Option.bind (ixS c1 t82.1) fun t83 =>
some (t82.2, some t83)) xs76 t75.2) fun t84 =>
Option.bind (lnOk t84.2) fun nt84 =>
Option.bind (joinS c41 t84.2) fun t86 =>
Option.bind (catS c50 t86) fun t91 =>
Option.bind (catS t70 c51) fun t92 =>
Option.bind (mulS c50 (12 : Int)) fun t93 =>
Option.bind (mulS c50 (13 : Int)) fun t94 =>
Option.bind (mulS c52 (9 : Int)) fun t95 =>
Option.bind (mulS c52 (10 : Int)) fun t96 =>
Option.bind (catL t50 ([t70, t86, t91, t92, c41, t93, t94, t95, t96, c3, c53, c54, c55] : (List (List Nat)))) fun t97 =>
Option.bind (m__law_keywords ) fun t102 =>
Option.bind (catL t97 t102) fun t103 =>
Option.bind (m__law_symbols ) fun t104 =>
Option.bind (catL t103 t104) fun t105 =>
Option.bind (forC (R := Bool) (fun (s106 : Unit) (x112 : (List Nat)) =>
Option.bind (m__law_right x112) fun t116 =>
if (!t116) then
some (.rt false)
else
some (.nx ())) t105 ()) fun c108 =>
match c108 with
| .nx s119 =>
Option.bind (m__law_keywords ) fun t125 =>
Option.bind (m__law_symbols ) fun t126 =>
Option.bind (catL t125 t126) fun t127 =>
Option.bind (joinS c5 t127) fun t128 =>
Option.bind (m_split_words t128) fun t129 =>
Option.bind (m__law_keywords ) fun t130 =>
Option.bind (m__law_symbols ) fun t131 =>
Option.bind (catL t130 t131) fun t132 =>
if (!decide ((t129 : (List (List Nat))) = t132)) then
some false
else
some ((decide ((([(1 : Int), (2 : Int), (3 : Int), (3 : Int), (4 : Int), (4 : Int), (5 : Int), (5 : Int)] : (List Int)) : (List Int)) = ([(1 : Int), (2 : Int), (3 : Int), (3 : Int), (4 : Int), (4 : Int), (5 : Int), (5 : Int)] : (List Int)))) && (decide ((8 : Int) = (8 : Int))))
| .bk s120 =>
none
| .rt r121 => some r121
end K00

namespace K00
open PySem L2 G
/-! ### the draws -/
def SmallL (l : List Int) : Prop := ∀ d ∈ l, 0 ≤ d ∧ d < 1009
theorem SmallL.snoc {l : List Int} {d : Int} (h : SmallL l) (h1 : 0 ≤ d) (h2 : d < 1009) : SmallL (l ++ [d]) := fun x hx => by
  rcases List.mem_append.mp hx with hx | hx
  · exact h x hx
  · rw [List.mem_singleton.mp hx]
    exact ⟨h1, h2⟩
theorem draws_tot (ns : List Int) (count : Int) (hl : ns.length ≤ 63) (hc : 0 ≤ count ∧ count ≤ 100000) : Tot (m__law_draws ⟨ns⟩ count) Draws := by
  unfold m__law_draws
  refine tot_bind (P := fun s : Int × List Int => 0 ≤ s.1 ∧ s.1 < 2147483647 ∧ SmallL s.2 ∧ s.2.length ≤ 3780) ?_ fun s hs => ?_
  · refine (tot_forSn (fun n (s : Int × List Int) => 0 ≤ s.1 ∧ s.1 < 2147483647 ∧ SmallL s.2 ∧ s.2.length + 60 * n ≤ 3780) ⟨by decide, by decide, (fun d hd => by cases hd), ?_⟩ fun n s x hx h => ?_).imp fun s h => ⟨h.1, h.2.1, h.2.2.1, by omega⟩
    · show 0 + 60 * ns.length ≤ 3780
      omega
    · obtain ⟨h1, h2, h3, h4⟩ := h
      refine tot_bind (tot_eq (mulI_l (by omega) (by omega))) fun t ht => ?_
      subst ht
      refine tot_bind (tot_eq (rng1_of (by decide) (by decide))) fun xs hxs => ?_
      subst hxs
      have hx0 : 0 ≤ (if x < 0 then -x else x) := by
        split <;> omega
      refine tot_bind (P := fun c : Ctl (Int × List Int) Empty => match c with | .nx s' => SmallL s'.2 ∧ s'.2.length + 60 * n ≤ 3780 | .bk s' => SmallL s'.2 ∧ s'.2.length + 60 * n ≤ 3780 | .rt _ => True) ?_ fun c hc => ?_
      · refine tot_forCn (fun m (s : Int × List Int) => 0 ≤ s.1 ∧ SmallL s.2 ∧ s.2.length + m + 60 * n ≤ 3780) _ (fun s h => ⟨h.2.1, by omega⟩) ⟨hx0, h3, ?_⟩ fun m s' k hk h => ?_
        · rw [rngI_len]
          show s.2.length + 60 + 60 * n ≤ 3780
          omega
        · obtain ⟨g1, g2, g3⟩ := h
          refine tot_if (fun hb => tot_some ⟨g2, by show s'.2.length + 60 * n ≤ 3780; omega⟩) fun hb => ?_
          have hlt : s'.2.length < LN := by
            have : LN = 1000000 := rfl
            omega
          refine tot_bind (tot_eq (appL_of hlt)) fun t ht => tot_some ?_
          subst ht
          refine ⟨by show 0 ≤ s'.1 / 1009; omega, g2.snoc (by omega) (by omega), ?_⟩
          rw [List.length_append]
          show s'.2.length + 1 + m + 60 * n ≤ 3780
          omega
      · cases c with
        | nx s' => exact tot_some ⟨by show 0 ≤ _ % (2147483647 : Int); omega, by show _ % (2147483647 : Int) < _; omega, hc.1, hc.2⟩
        | bk s' => exact tot_some ⟨by show 0 ≤ _ % (2147483647 : Int); omega, by show _ % (2147483647 : Int) < _; omega, hc.1, hc.2⟩
        | rt r => exact nomatch r
  · obtain ⟨h1, h2, h3, h4⟩ := hs
    have hm : 1 ≤ (if count - (s.2.length : Int) > 1 then count - (s.2.length : Int) else 1) ∧ (if count - (s.2.length : Int) > 1 then count - (s.2.length : Int) else 1) ≤ 100001 := by
      split <;> omega
    refine tot_bind (tot_eq (rng1_of (by omega) (by omega))) fun xs hxs => ?_
    subst hxs
    refine tot_bind (P := fun s : Int × List Int => SmallL s.2 ∧ 0 < s.2.length) ?_ fun s h => tot_some ⟨h.2, h.1⟩
    have hk := @rngI_len 0 (if count - (s.2.length : Int) > 1 then count - (s.2.length : Int) else 1).toNat
    revert hk
    generalize rngI 0 (if count - (s.2.length : Int) > 1 then count - (s.2.length : Int) else 1).toNat = xs
    intro hk
    have hk1 : 1 ≤ xs.length ∧ xs.length ≤ 100001 := by omega
    refine (tot_forSn (fun n (s : Int × List Int) => 0 ≤ s.1 ∧ s.1 < 2147483647 ∧ SmallL s.2 ∧ s.2.length + n ≤ 103781 ∧ 1 ≤ s.2.length + n) ⟨h1, h2, h3, ?_, ?_⟩ fun n s' x hx h => ?_).imp fun s h => ⟨h.2.2.1, by omega⟩
    · show s.2.length + _ ≤ _
      omega
    · show 1 ≤ s.2.length + _
      omega
    · obtain ⟨g1, g2, g3, g4, g5⟩ := h
      refine tot_bind (tot_eq (mulI_l (by omega) (by omega))) fun t ht => ?_
      subst ht
      refine tot_bind (tot_eq (mulI_l (by omega) (by omega))) fun t ht => ?_
      subst ht
      have hlt : s'.2.length < LN := by
        have : LN = 1000000 := rfl
        omega
      refine tot_bind (tot_eq (appL_of hlt)) fun t ht => tot_some ?_
      subst ht
      refine ⟨by show 0 ≤ _ % (2147483647 : Int); omega, by show _ % (2147483647 : Int) < _; omega, g3.snoc (by omega) (by omega), ?_, ?_⟩
      · rw [List.length_append]
        show s'.2.length + 1 + n ≤ _
        omega
      · rw [List.length_append]
        show 1 ≤ s'.2.length + 1 + n
        omega
theorem take_tot {ds a : List Int} {many : Int} (hd : Draws ds) (ha : At a) (hm : 0 < many) : Tot (m__law_take ds a many) fun r => 0 ≤ r.1 ∧ r.1 < many ∧ At r.2 := by
  obtain ⟨n, hn, rfl⟩ := ha
  unfold m__law_take
  refine tot_bind (tot_eq (x := n) rfl) fun t ht => ?_
  subst ht
  refine tot_bind (tot_eq (x := [t + 1]) rfl) fun t2 ht => ?_
  subst ht
  refine tot_bind (tot_eq (x := t + 1) rfl) fun t5 ht => ?_
  subst ht
  have hp := hd.pos
  refine tot_bind (tot_eq (modI_of (by omega))) fun t6 ht => ?_
  subst ht
  obtain ⟨d, e, h1, h2⟩ := hd.get (i := (t + 1 - 1) % (ds.length : Int)) (Int.emod_nonneg _ (by omega)) (Int.emod_lt_of_pos _ (by omega))
  refine tot_bind (tot_eq e) fun t7 ht => ?_
  subst ht
  refine tot_bind (tot_eq (modI_of hm)) fun t8 ht => tot_some ?_
  subst ht
  exact ⟨Int.emod_nonneg _ (by omega), Int.emod_lt_of_pos _ hm, t + 1, by omega, rfl⟩
end K00

namespace K00
open PySem L2 G
/-! ### words -/
def alnum (c : Nat) : Bool := isIn c c2
theorem inC_one (c : Nat) (l : Tx) : inC [c] l = some (isIn c l) := rfl
def tokF : Nat → Tx → List Tx
  | 0, _ => []
  | _ + 1, [] => []
  | n + 1, c :: r => if alnum c then (c :: r.takeWhile alnum) :: tokF n (r.dropWhile alnum) else
    if c = 61 ∧ r.head? = some 61 then [61, 61] :: tokF n r.tail else if c = 32 ∨ c = 10 then tokF n r else [c] :: tokF n r
theorem dropWhile_len (p : Nat → Bool) : ∀ r : Tx, (r.dropWhile p).length ≤ r.length
  | [] => Nat.le_refl _
  | c :: r => by
    rw [List.dropWhile_cons]
    split
    · exact Nat.le_succ_of_le (dropWhile_len p r)
    · exact Nat.le_refl _
theorem tokF_fuel : ∀ (n m : Nat) (r : Tx), r.length ≤ n → r.length ≤ m → tokF n r = tokF m r
  | 0, 0, _, _, _ => rfl
  | 0, m + 1, r, h, _ => by
    have : r = [] := List.length_eq_zero_iff.mp (by omega)
    subst this
    rfl
  | n + 1, 0, r, _, h => by
    have : r = [] := List.length_eq_zero_iff.mp (by omega)
    subst this
    rfl
  | n + 1, m + 1, [], _, _ => rfl
  | n + 1, m + 1, c :: r, h1, h2 => by
    rw [List.length_cons] at h1 h2
    have a1 : tokF n (r.dropWhile alnum) = tokF m (r.dropWhile alnum) := tokF_fuel n m _ (by have := dropWhile_len alnum r; omega) (by have := dropWhile_len alnum r; omega)
    have a2 : tokF n r.tail = tokF m r.tail := tokF_fuel n m _ (by rw [List.length_tail]; omega) (by rw [List.length_tail]; omega)
    have a3 : tokF n r = tokF m r := tokF_fuel n m _ (by omega) (by omega)
    show (if _ then _ else _) = (if _ then _ else _)
    rw [a1, a2, a3]
def tok (r : Tx) : List Tx := tokF r.length r
theorem tok_nil : tok [] = [] := rfl
theorem tok_cons (c : Nat) (r : Tx) : tok (c :: r) = if alnum c then (c :: r.takeWhile alnum) :: tok (r.dropWhile alnum) else
    if c = 61 ∧ r.head? = some 61 then [61, 61] :: tok r.tail else if c = 32 ∨ c = 10 then tok r else [c] :: tok r := by
  show (if _ then _ else _) = _
  rw [tokF_fuel r.length (r.dropWhile alnum).length _ (dropWhile_len alnum r) (Nat.le_refl _), tokF_fuel r.length r.tail.length _ (by rw [List.length_tail]; omega) (Nat.le_refl _)]
  rfl
theorem tok_other {c : Nat} {r : Tx} (h1 : alnum c = false) (h2 : ¬ (c = 61 ∧ r.head? = some 61)) : tok (c :: r) = if c = 32 ∨ c = 10 then tok r else [c] :: tok r := by
  rw [tok_cons, if_neg (by rw [h1]; decide), if_neg h2]
theorem drop_cons {text : Tx} {n : Nat} (h : n < text.length) : text.drop n = text[n] :: text.drop (n + 1) := List.drop_eq_getElem_cons h
theorem tokF_len : ∀ (n : Nat) (r : Tx), (tokF n r).length ≤ r.length
  | 0, _ => Nat.zero_le _
  | _ + 1, [] => Nat.le_refl _
  | n + 1, c :: r => by
    show (if _ then _ else _ : List Tx).length ≤ _
    have h1 := tokF_len n (r.dropWhile alnum)
    have h2 := dropWhile_len alnum r
    have h3 := tokF_len n r.tail
    have h4 := tokF_len n r
    rw [List.length_tail] at h3
    split
    · rw [List.length_cons, List.length_cons]; omega
    · split
      · rw [List.length_cons, List.length_cons]; omega
      · split
        · rw [List.length_cons]; omega
        · rw [List.length_cons, List.length_cons]; omega
theorem tok_len (r : Tx) : (tok r).length ≤ r.length := tokF_len _ _
theorem takeWhile_all {p : Nat → Bool} : ∀ {r : Tx}, (∀ c ∈ r, p c = true) → r.takeWhile p = r ∧ r.dropWhile p = []
  | [], _ => ⟨rfl, rfl⟩
  | c :: r, h => by
    obtain ⟨h1, h2⟩ := takeWhile_all (p := p) (r := r) fun x hx => h x (List.mem_cons_of_mem _ hx)
    rw [List.takeWhile_cons, List.dropWhile_cons, if_pos (h c List.mem_cons_self), if_pos (h c List.mem_cons_self), h1, h2]
    exact ⟨rfl, rfl⟩
/-- the inner while of split_words: on from a place to the first sign that is none of a word -/
theorem inner_tot (text : Tx) (e0 : Nat) (h0 : e0 ≤ text.length) (hz : text.length ≤ 5000) : Tot (whileS (fun s : Int => Option.bind (gAnd (decide (s < (text.length : Int))) (Option.bind (ixS text s) fun t => Option.bind (inC t c2) fun t2 => some t2)) fun t => some t) (fun s : Int => some (s + 1)) 100000 (e0 : Int))
    fun e => e = ((e0 + ((text.drop e0).takeWhile alnum).length : Nat) : Int) := by
  refine (tot_whileS (fun s : Int => ∃ k : Nat, s = (e0 + k : Nat) ∧ e0 + k ≤ text.length ∧ ((text.drop e0).takeWhile alnum).length = k + ((text.drop (e0 + k)).takeWhile alnum).length) (fun s => (text.length - s).toNat)
    (fun s => match text[s.toNat]? with | some c => alnum c | none => false) (fun s hs => ?_) (fun s hs hc => ?_) 100000 (e0 : Int) ⟨0, by simp, by omega, by simp⟩ (by omega)).imp fun s h => ?_
  · obtain ⟨k, rfl, h1, _⟩ := hs
    rcases Nat.lt_or_ge (e0 + k) text.length with h | h
    · have hd : decide (((e0 + k : Nat) : Int) < (text.length : Int)) = true := decide_eq_true (by omega)
      unfold gAnd
      rw [hd, if_pos rfl, ixS_n h]
      rw [show ((e0 + k : Nat) : Int).toNat = e0 + k by omega, List.getElem?_eq_getElem h]
      rfl
    · have hd : decide (((e0 + k : Nat) : Int) < (text.length : Int)) = false := decide_eq_false (by omega)
      unfold gAnd
      rw [hd, show ((e0 + k : Nat) : Int).toNat = e0 + k by omega, List.getElem?_eq_none h]
      rfl
  · obtain ⟨k, rfl, h1, h2⟩ := hs
    rw [show ((e0 + k : Nat) : Int).toNat = e0 + k by omega] at hc
    rcases Nat.lt_or_ge (e0 + k) text.length with h | h
    · rw [List.getElem?_eq_getElem h] at hc
      refine tot_some ⟨⟨k + 1, by omega, by omega, ?_⟩, by omega⟩
      rw [h2, drop_cons h, List.takeWhile_cons, if_pos hc, List.length_cons]
      show _ = k + 1 + (List.takeWhile alnum (List.drop (e0 + k + 1) text)).length
      omega
    · rw [List.getElem?_eq_none h] at hc
      cases hc
  · obtain ⟨⟨k, rfl, h1, h2⟩, hc⟩ := h
    rw [show ((e0 + k : Nat) : Int).toNat = e0 + k by omega] at hc
    rw [h2]
    rcases Nat.lt_or_ge (e0 + k) text.length with h | h
    · rw [List.getElem?_eq_getElem h] at hc
      have hc : alnum text[e0 + k] = false := hc
      rw [drop_cons h, List.takeWhile_cons, if_neg (by rw [hc]; decide)]
      rfl
    · rw [List.drop_eq_nil_of_le h]
      rfl
theorem sIx_nat' (n d k : Nat) : HT.sIx n d (some (k : Int)) = min k n := HT.sIx_nat n d k
theorem cut_nat (x : Tx) (a b : Nat) (hb : b ≤ x.length) : cut x (some (a : Int)) (some (b : Int)) = (x.drop a).take (b - a) := by
  unfold cut
  rw [sIx_nat', sIx_nat', Nat.min_eq_left hb]
  rcases Nat.lt_or_ge a x.length with h | h
  · rw [Nat.min_eq_left (by omega)]
  · rw [Nat.min_eq_right h, List.drop_eq_nil_of_le (Nat.le_refl _), List.drop_eq_nil_of_le h]
    simp
theorem take_takeWhile (p : Nat → Bool) : ∀ r : Tx, r.take (r.takeWhile p).length = r.takeWhile p ∧ r.drop (r.takeWhile p).length = r.dropWhile p
  | [] => ⟨rfl, rfl⟩
  | c :: r => by
    obtain ⟨h1, h2⟩ := take_takeWhile p r
    rw [List.takeWhile_cons, List.dropWhile_cons]
    split
    · rw [List.length_cons, List.take_succ_cons, List.drop_succ_cons, h1, h2]
      exact ⟨rfl, rfl⟩
    · exact ⟨rfl, rfl⟩
theorem split_tot (text : Tx) (hz : text.length ≤ 5000) : m_split_words text = some (tok text) := by
  refine Tot.is ?_
  unfold m_split_words
  have key : ∀ (at_ : Nat) (h : at_ < text.length), text.drop at_ = text[at_] :: text.drop (at_ + 1) := fun at_ h => drop_cons h
  refine tot_bind (P := fun s : Int × List Tx => s.2 = tok text) ?_ fun s h => tot_some h
  refine (tot_whileS (fun s : Int × List Tx => ∃ k : Nat, s.1 = k ∧ k ≤ text.length ∧ s.2.length ≤ k ∧ s.2 ++ tok (text.drop k) = tok text) (fun s => (text.length - s.1).toNat) (fun s => decide (s.1 < (text.length : Int))) (fun s hs => rfl) (fun s hs hc => ?_) 100000 ((0 : Int), ([] : List Tx)) ⟨0, rfl, by omega, by simp, rfl⟩ (by show ((text.length : Int) - 0).toNat < 100000; omega)).imp fun s h => ?_
  · obtain ⟨k, e1, h1, h4, h2⟩ := hs
    obtain ⟨a, words⟩ := s
    have e1 : a = (k : Int) := e1
    subst e1
    have hk : k < text.length := by
      have := of_decide_eq_true hc
      have this : (k : Int) < text.length := this
      omega
    have hd := key k hk
    have tk : (k : Int).toNat = k := by omega
    refine tot_bind (tot_eq (ixS_n hk)) fun t ht => ?_
    subst ht
    refine tot_bind (tot_eq (inC_one _ c2)) fun t2 ht => ?_
    subst ht
    -- where the word ends, and what it leaves
    refine tot_bind (P := fun e : Int => ∃ n : Nat, e = n ∧ k < n ∧ n ≤ text.length ∧ ((alnum text[k] = true ∧ (text.drop k).take (n - k) = text[k] :: (text.drop (k + 1)).takeWhile alnum ∧ text.drop n = (text.drop (k + 1)).dropWhile alnum) ∨
      (alnum text[k] = false ∧ text[k] = 61 ∧ (text.drop (k + 1)).head? = some 61 ∧ n = k + 2) ∨ (alnum text[k] = false ∧ ¬ (text[k] = 61 ∧ (text.drop (k + 1)).head? = some 61) ∧ n = k + 1))) ?_ fun e he => ?_
    · refine tot_if (fun hb => ?_) fun hb => tot_if (fun hb2 => tot_some ?_) fun hb2 => tot_some ?_
      · refine tot_bind (P := fun e : Int => e = ((k + 1 + ((text.drop (k + 1)).takeWhile alnum).length : Nat) : Int)) ?_ fun e he => tot_some ?_
        · have h9 := inner_tot text (k + 1) hk hz
          rw [show (((k + 1 : Nat)) : Int) = (k : Int) + 1 by omega] at h9
          exact h9
        · have hw := take_takeWhile alnum (text.drop (k + 1))
          have hl : ((text.drop (k + 1)).takeWhile alnum).length ≤ (text.drop (k + 1)).length := by
            have := List.takeWhile_sublist (p := alnum) (l := text.drop (k + 1))
            exact this.length_le
          rw [List.length_drop] at hl
          refine ⟨_, he, by omega, by omega, .inl ⟨hb, ?_, ?_⟩⟩
          · rw [hd, show k + 1 + ((text.drop (k + 1)).takeWhile alnum).length - k = ((text.drop (k + 1)).takeWhile alnum).length + 1 by omega, List.take_succ_cons, hw.1]
          · rw [← List.drop_drop, hw.2]
      · have e3 := of_decide_eq_true hb2
        have e3 : cut text (some (k : Int)) (some ((k : Int) + 2)) = [61, 61] := e3
        rcases Nat.lt_or_ge (k + 1) text.length with h | h
        · rw [show (k : Int) + 2 = ((k + 2 : Nat) : Int) by omega, cut_nat _ _ _ (by omega), hd, drop_cons h, show k + 2 - k = 2 by omega] at e3
          injection e3 with e4 e5
          injection e5 with e6 _
          refine ⟨k + 2, by omega, by omega, by omega, .inr (.inl ⟨hb, e4, ?_, rfl⟩)⟩
          rw [drop_cons h]
          exact congrArg some e6
        · have hle := cut_len text (some (k : Int)) (some ((k : Int) + 2))
          have e9 : (cut text (some (k : Int)) (some ((k : Int) + 2))).length = 2 := by rw [e3]; rfl
          rw [show (k : Int) + 2 = ((k + 2 : Nat) : Int) by omega] at e9
          unfold cut at e9
          rw [sIx_nat', List.length_take, List.length_drop, sIx_nat'] at e9
          omega
      · refine ⟨k + 1, by omega, by omega, by omega, .inr (.inr ⟨hb, fun ⟨a1, a2⟩ => ?_, rfl⟩)⟩
        have e3 := of_decide_eq_false hb2
        rcases Nat.lt_or_ge (k + 1) text.length with h | h
        · rw [drop_cons h] at a2
          have a3 := Option.some.inj a2
          apply e3
          show cut text (some (k : Int)) (some ((k : Int) + 2)) = [61, 61]
          rw [show (k : Int) + 2 = ((k + 2 : Nat) : Int) by omega, cut_nat _ _ _ (by omega), hd, drop_cons h, show k + 2 - k = 2 by omega, a1, a3]
          rfl
        · rw [List.drop_eq_nil_of_le h] at a2
          cases a2
    · obtain ⟨n, rfl, g1, g2, g3⟩ := he
      refine tot_bind (tot_eq (ixS_n hk)) fun t ht => ?_
      subst ht
      have hand : gAnd (!decide ([text[k]] = c5)) (Option.bind (ixS text (k : Int)) fun t59 => some (!decide (t59 = c6))) = some (decide (¬ (text[k] = 32 ∨ text[k] = 10))) := by
        rw [ixS_n hk]
        unfold gAnd
        have q1 : decide ([text[k]] = c5) = decide (text[k] = 32) := by
          rw [Bool.eq_iff_iff]
          simp [c5]
        have q2 : decide ([text[k]] = c6) = decide (text[k] = 10) := by
          rw [Bool.eq_iff_iff]
          simp [c6]
        show (if (!decide ([text[k]] = c5)) = true then some (!decide ([text[k]] = c6)) else some false) = _
        rw [q1, q2]
        by_cases z1 : text[k] = 32
        · simp [z1]
        · by_cases z2 : text[k] = 10 <;> simp [z1, z2]
      refine tot_bind (tot_eq hand) fun t60 ht => ?_
      have hcut := cut_nat text k n g2
      have hlt : words.length < LN := by
        have : LN = 1000000 := rfl
        have : words.length ≤ k := h4
        omega
      -- what the turn adds
      refine tot_bind (P := fun w : List Tx => w = if (text[k] = 32 ∨ text[k] = 10) then words else words ++ [(text.drop k).take (n - k)]) ?_ fun w hw => tot_some ⟨⟨n, rfl, g2, ?_, ?_⟩, ?_⟩
      · refine tot_if (fun hb => ?_) fun hb => ?_
        · rw [ht] at hb
          have hb := of_decide_eq_true hb
          refine tot_bind (tot_eq (appL_of hlt)) fun t ht => tot_some ?_
          rw [ht, if_neg hb, hcut]
        · rw [ht] at hb
          have hb := of_decide_eq_false hb
          refine tot_some ?_
          rw [if_pos (Classical.not_not.mp hb)]
      · subst hw
        have : words.length ≤ k := h4
        show (if _ then _ else _ : List Tx).length ≤ n
        split
        · omega
        · rw [List.length_append]
          show words.length + 1 ≤ n
          omega
      · subst hw
        rw [← h2]
        show (if _ then _ else _ : List Tx) ++ tok (text.drop n) = words ++ tok (text.drop k)
        have blank : ∀ c, (c = 32 ∨ c = 10) → alnum c = false := fun c h => by rcases h with rfl | rfl <;> decide
        rcases g3 with ⟨b1, b2, b3⟩ | ⟨b1, b2, b3, b4⟩ | ⟨b1, b2, b4⟩
        · rw [if_neg (fun h => by rw [blank _ h] at b1; cases b1), b2, b3, hd, tok_cons, if_pos b1, List.append_assoc]
          rfl
        · subst b4
          have hne : ¬ (text[k] = 32 ∨ text[k] = 10) := by rw [b2]; decide
          have h5 : k + 1 < text.length := by omega
          rw [drop_cons h5] at b3
          have b5 := Option.some.inj b3
          rw [if_neg hne, hd, tok_cons, if_neg (by rw [b1]; decide), if_pos ⟨b2, by rw [drop_cons h5]; exact b3⟩, drop_cons h5, show k + 2 - k = 2 by omega, b2, b5, List.append_assoc]
          rfl
        · subst b4
          rw [hd, tok_other b1 b2]
          by_cases hb : text[k] = 32 ∨ text[k] = 10
          · rw [if_pos hb, if_pos hb]
          · rw [if_neg hb, if_neg hb, show k + 1 - k = 1 by omega, List.append_assoc]
            rfl
      · show ((text.length : Int) - (n : Int)).toNat < ((text.length : Int) - (k : Int)).toNat
        omega
  · obtain ⟨⟨k, e1, h1, h4, h2⟩, hc⟩ := h
    have := of_decide_eq_false hc
    have e2 : k = text.length := by omega
    subst e2
    rw [List.drop_length] at h2
    rw [← h2, tok_nil, List.append_nil]
end K00

namespace K00
open PySem L2 G
/-- what is still to come, from the law's own state -/
def restW (word : Tx) (skip : Bool) (r : Tx) : List Tx := if word = [] then (if skip then tok r.tail else tok r) else (word ++ r.takeWhile alnum) :: tok (r.dropWhile alnum)
theorem words_tot (text : Tx) (hz : text.length ≤ 5000) : m__law_words text = some (tok text) := by
  refine Tot.is ?_
  unfold m__law_words
  refine tot_bind (tot_eq (rng1_of (by omega) (by omega))) fun xs hxs => ?_
  subst hxs
  have hN : ((text.length : Int)).toNat = text.length := by omega
  rw [hN]
  refine tot_bind (P := fun s : Tx × Bool × List Tx => s.2.2 ++ restW s.1 s.2.1 [] = tok text ∧ s.2.2.length ≤ 2 * text.length ∧ s.1.length ≤ text.length) ?_ fun s hs => ?_
  · refine (tot_forS (fun (done left : List Int) (s : Tx × Bool × List Tx) => s.1.length ≤ done.length ∧ s.2.2.length ≤ 2 * done.length ∧ (∀ c ∈ s.1, alnum c = true) ∧ (s.2.1 = true → s.1 = [] ∧ ∃ r, text.drop done.length = 61 :: r) ∧ s.2.2 ++ restW s.1 s.2.1 (text.drop done.length) = tok text) (rngI 0 text.length) [] (([] : Tx), false, ([] : List Tx)) ⟨Nat.zero_le _, Nat.zero_le _, (fun c hc => by cases hc), (fun h => by cases h), rfl⟩ (fun d x r s he h => ?_)).imp fun s h => ?_
    · obtain ⟨word, skip, words⟩ := s
      obtain ⟨h1, h2, h3, h4, h5⟩ := h
      have h1 : word.length ≤ d.length := h1
      have h2 : words.length ≤ 2 * d.length := h2
      have h3 : ∀ c ∈ word, alnum c = true := h3
      have h4 : skip = true → word = [] ∧ ∃ r, text.drop d.length = 61 :: r := h4
      have h5 : words ++ restW word skip (text.drop d.length) = tok text := h5
      rw [List.nil_append] at he
      have hlen : d.length + (r.length + 1) = text.length := by
        have := congrArg List.length he
        rw [rngI_len, List.length_append, List.length_cons] at this
        exact this
      have hk : d.length < text.length := by omega
      have hx : x = (d.length : Int) := by
        have e1 : (d ++ x :: r)[d.length]? = some x := by simp
        rw [he] at e1
        unfold rngI at e1
        rw [List.getElem?_map, List.getElem?_range (by omega)] at e1
        have e4 : (0 : Int) + ((d.length : Nat) : Int) = x := Option.some.inj e1
        omega
      subst hx
      have hd := drop_cons hk
      generalize hkk : d.length = k at *
      have hdl : (d ++ [(k : Int)]).length = k + 1 := by
        rw [List.length_append, hkk]
        rfl
      have LNv : LN = 1000000 := rfl
      refine tot_bind (tot_eq (ixS_n hk)) fun t ht => ?_
      subst ht
      refine tot_bind (tot_eq (inC_one _ c2)) fun t2 ht => ?_
      subst ht
      refine tot_if (fun hb => ?_) fun hb => ?_
      · -- a sign of a word
        have hb : alnum text[k] = true := hb
        refine tot_bind (tot_eq (ixS_n hk)) fun t ht => ?_
        subst ht
        refine tot_bind (tot_eq (catS_of (by show word.length + 1 ≤ LN; omega))) fun t ht => tot_some ?_
        subst ht
        have hns : skip = false := by
          cases hs : skip with
          | false => rfl
          | true =>
            obtain ⟨_, r', e⟩ := h4 hs
            rw [hd] at e
            injection e with e1 _
            rw [e1] at hb
            revert hb
            decide
        subst hns
        refine ⟨?_, ?_, fun c hc => ?_, (fun h => by cases h), ?_⟩
        · rw [hdl]
          show (word ++ [text[k]]).length ≤ k + 1
          rw [List.length_append]
          show word.length + 1 ≤ k + 1
          omega
        · rw [hdl]
          show words.length ≤ 2 * (k + 1)
          omega
        · rcases List.mem_append.mp hc with hc | hc
          · exact h3 c hc
          · rw [List.mem_singleton.mp hc]
            exact hb
        · rw [hdl, ← h5, hd]
          show words ++ restW (word ++ [text[k]]) false (text.drop (k + 1)) = words ++ restW word false (text[k] :: text.drop (k + 1))
          unfold restW
          rw [if_neg (by simp)]
          by_cases hw : word = []
          · subst hw
            rw [if_pos rfl, if_neg (by decide), tok_cons, if_pos hb]
            rfl
          · rw [if_neg hw, List.takeWhile_cons, if_pos hb, List.dropWhile_cons, if_pos hb, List.append_assoc]
            rfl
      · have hb : alnum text[k] = false := hb
        -- the word ends
        refine tot_bind (P := fun ws : List Tx => ws = if word = [] then words else words ++ [word]) ?_ fun ws hws => ?_
        · refine tot_if (fun hc => ?_) fun hc => ?_
          · have hc : word ≠ [] := by
              rw [Bool.not_eq_true'] at hc
              exact of_decide_eq_false hc
            refine tot_bind (tot_eq (appL_of (by omega))) fun t ht => tot_some ?_
            rw [ht, if_neg hc]
          · have hc : word = [] := by
              rw [Bool.not_eq_false'] at hc
              exact of_decide_eq_true hc
            exact tot_some (by rw [if_pos hc])
        · have hwl : ws.length ≤ 2 * k + 1 := by
            rw [hws]
            by_cases hw : word = []
            · rw [if_pos hw]
              omega
            · rw [if_neg hw, List.length_append]
              show words.length + 1 ≤ 2 * k + 1
              omega
          -- what is told so far, and the rest from here
          have h6 : ws ++ (if skip then tok (text.drop (k + 1)) else tok (text.drop k)) = tok text := by
            rw [hws]
            by_cases hw : word = []
            · rw [if_pos hw]
              rw [← h5]
              unfold restW
              rw [if_pos hw]
              cases skip with
              | true => rw [if_pos rfl, if_pos rfl, hd]; rfl
              | false => rfl
            · rw [if_neg hw]
              have hns : skip = false := by
                cases hs : skip with
                | false => rfl
                | true => exact absurd (h4 hs).1 hw
              subst hns
              rw [← h5, if_neg (by decide)]
              unfold restW
              rw [if_neg hw, hd, List.takeWhile_cons, if_neg (by rw [hb]; decide), List.dropWhile_cons, if_neg (by rw [hb]; decide), List.append_nil, List.append_assoc]
              rfl
          have fin : ∀ (sk : Bool) (w : List Tx), w.length ≤ 2 * k + 2 → (sk = true → ∃ r, text.drop (k + 1) = 61 :: r) → w ++ restW [] sk (text.drop (k + 1)) = tok text → ([] : Tx).length ≤ (d ++ [(k : Int)]).length ∧ w.length ≤ 2 * (d ++ [(k : Int)]).length ∧ (∀ c ∈ ([] : Tx), alnum c = true) ∧ (sk = true → ([] : Tx) = [] ∧ ∃ r, text.drop (d ++ [(k : Int)]).length = 61 :: r) ∧ w ++ restW [] sk (text.drop (d ++ [(k : Int)]).length) = tok text := fun sk w a1 a2 a3 => by
            rw [hdl]
            exact ⟨Nat.zero_le _, by omega, fun c hc => (by cases hc), fun h => ⟨rfl, a2 h⟩, a3⟩
          refine tot_if (fun hs => ?_) fun hs => ?_
          · have hs : skip = true := hs
            subst hs
            rw [if_pos rfl] at h6
            exact tot_some (fin false ws (by omega) (fun h => by cases h) h6)
          · have hs : skip = false := hs
            subst hs
            rw [if_neg (by decide)] at h6
            refine tot_bind (tot_eq (ixS_n hk)) fun t ht => ?_
            subst ht
            -- two equality signs
            have e2 : gAnd (decide ([text[k]] = c35)) (Option.bind (gAnd (decide (((k : Int) + 1) < (text.length : Int))) (Option.bind (ixS text ((k : Int) + 1)) fun t60 => some (decide (t60 = c35)))) fun t61 => some t61) = some (decide (text[k] = 61 ∧ (text.drop (k + 1)).head? = some 61)) := by
              have q1 : decide ([text[k]] = c35) = decide (text[k] = 61) := by
                rw [Bool.eq_iff_iff]
                simp [c35]
              unfold gAnd
              rw [q1]
              by_cases z : text[k] = 61
              · rw [decide_eq_true z, if_pos rfl]
                rcases Nat.lt_or_ge (k + 1) text.length with h | h
                · rw [decide_eq_true (show (k : Int) + 1 < (text.length : Int) by omega), if_pos rfl, show (k : Int) + 1 = ((k + 1 : Nat) : Int) by omega, ixS_n h, drop_cons h]
                  show some (decide ([text[k + 1]] = c35)) = _
                  congr 1
                  rw [Bool.eq_iff_iff]
                  simp [c35, z, List.getElem?_eq_getElem h]
                · rw [decide_eq_false (show ¬ (k : Int) + 1 < (text.length : Int) by omega), List.drop_eq_nil_of_le h]
                  simp
              · rw [decide_eq_false z]
                simp [z]
            refine tot_bind (tot_eq e2) fun t62 ht => ?_
            refine tot_if (fun hc => ?_) fun hc => ?_
            · rw [ht] at hc
              obtain ⟨z1, z2⟩ := of_decide_eq_true hc
              refine tot_bind (tot_eq (appL_of (by omega))) fun t ht => tot_some ?_
              subst ht
              have h8 : k + 1 < text.length := by
                rcases Nat.lt_or_ge (k + 1) text.length with h | h
                · exact h
                · rw [List.drop_eq_nil_of_le h] at z2
                  cases z2
              have z3 := z2
              rw [drop_cons h8] at z3
              have z4 := Option.some.inj z3
              refine fin true (ws ++ [c4]) (by rw [List.length_append]; show ws.length + 1 ≤ _; omega) (fun _ => ⟨_, by rw [drop_cons h8, z4]⟩) ?_
              rw [← h6, hd, tok_cons, if_neg (by rw [hb]; decide), if_pos ⟨z1, z2⟩, List.append_assoc]
              unfold restW
              rw [if_pos rfl, if_pos rfl]
              rfl
            · rw [ht] at hc
              have z := of_decide_eq_false hc
              rw [hd, tok_other hb z] at h6
              refine tot_bind (tot_eq (ixS_n hk)) fun t ht => ?_
              subst ht
              refine tot_bind (tot_eq (inC_one _ c42)) fun t73 ht => ?_
              have e3 : isIn text[k] c42 = decide (text[k] = 32 ∨ text[k] = 10) := by
                unfold isIn
                rw [Bool.eq_iff_iff]
                simp [c42]
              refine tot_if (fun hc2 => ?_) fun hc2 => ?_
              · rw [ht, e3, Bool.not_eq_true'] at hc2
                have z5 := of_decide_eq_false hc2
                refine tot_bind (tot_eq (ixS_n hk)) fun t ht => ?_
                subst ht
                refine tot_bind (tot_eq (appL_of (by omega))) fun t ht => tot_some ?_
                subst ht
                refine fin false (ws ++ [[text[k]]]) (by rw [List.length_append]; show ws.length + 1 ≤ _; omega) (fun h => by cases h) ?_
                rw [← h6, if_neg z5, List.append_assoc]
                rfl
              · rw [ht, e3, Bool.not_eq_false'] at hc2
                have z5 := of_decide_eq_true hc2
                rw [if_pos z5] at h6
                exact tot_some (fin false ws (by omega) (fun h => by cases h) h6)
    · obtain ⟨h1, h2, h3, h4, h5⟩ := h
      rw [List.nil_append, rngI_len] at h1 h2 h4 h5
      rw [List.drop_length] at h5
      exact ⟨h5, h2, h1⟩
  · obtain ⟨h1, h2, h3⟩ := hs
    have LNv : LN = 1000000 := rfl
    refine tot_bind (tot_eq (compC_pure (g := fun x : Tx => if x = [] then none else some x) fun x hx => ?_)) fun t ht => ?_
    · by_cases h : x = []
      · rw [if_pos h]
        have e : (!decide (x = c41)) = false := by
          rw [h]
          rfl
        rw [e]
        rfl
      · rw [if_neg h]
        have e : (!decide (x = c41)) = true := by
          rw [Bool.not_eq_true']
          exact decide_eq_false h
        rw [e]
        rfl
    · subst ht
      have hl : ∀ w : Tx, ([w].filterMap fun x : Tx => if x = [] then none else some x) = if w = [] then [] else [w] := fun w => by
        by_cases h : w = [] <;> simp [h]
      rw [hl]
      have hl2 : (if s.1 = [] then [] else [s.1] : List Tx).length ≤ 1 := by
        split
        · exact Nat.zero_le _
        · exact Nat.le_refl _
      refine tot_bind (tot_eq (lnOk_of (by show (if s.1 = [] then [] else [s.1] : List Tx).length ≤ LN; omega))) fun _ _ => ?_
      refine tot_bind (tot_eq (catL_of (by show s.2.2.length + (if s.1 = [] then [] else [s.1] : List Tx).length ≤ LN; omega))) fun t ht => tot_some ?_
      subst ht
      rw [← h1]
      unfold restW
      by_cases h : s.1 = []
      · rw [if_pos h, if_pos h]
        cases s.2.1 <;> rfl
      · rw [if_neg h, if_neg h]
        show s.2.2 ++ [s.1] = s.2.2 ++ [s.1 ++ []]
        rw [List.append_nil]
end K00

namespace K00
open PySem L2 G
/-! ### classes of words -/
def letter (c : Nat) : Bool := isIn c c0
def digit (c : Nat) : Bool := isIn c c1
theorem alnum_iff (c : Nat) : alnum c = (letter c || digit c) := by
  unfold alnum letter digit isIn
  rw [Bool.eq_iff_iff]
  simp [c0, c1, c2]
  omega
theorem not_both (c : Nat) (h : letter c = true) : digit c = false := by
  unfold letter isIn at h
  unfold digit isIn
  have h := of_decide_eq_true h
  refine decide_eq_false fun h2 => ?_
  revert h h2
  simp [c0, c1]
  omega
def kw (w : Tx) : Bool := isIn w k_KEYWORDS
def sy (w : Tx) : Bool := isIn w k_SYMBOLS
def nameB (w : Tx) : Bool := decide (1 ≤ w.length ∧ w.length ≤ 12) && (match w with | c :: _ => letter c | [] => false) && !kw w && w.all alnum
def numB (w : Tx) : Bool := decide (1 ≤ w.length ∧ w.length ≤ 9) && !(decide (w.head? = some 48) && decide (1 < w.length)) && w.all digit
theorem comp_all {p : Nat → Bool} {l : Tx} {w : Tx} (hp : ∀ c, p c = isIn c l) : compC (fun (_ : Unit) (x : Tx) => Option.bind (inC x l) fun t => some ((), some t)) (w.map fun c => [c]) () = some ((), w.map p) := by
  have h := compC_pure (f := fun (_ : Unit) (x : Tx) => Option.bind (inC x l) fun t => some ((), some t)) (g := fun x : Tx => match x with | [c] => some (p c) | _ => none) (xs := w.map fun c => [c]) fun x hx => by
    obtain ⟨c, _, rfl⟩ := List.mem_map.mp hx
    show some ((), some (isIn c l)) = some ((), some (p c))
    rw [hp c]
  rw [h, List.filterMap_map]
  congr 2
  rw [show ((fun x : Tx => match x with | [c] => some (p c) | _ => none) ∘ fun c => [c]) = fun c => some (p c) from rfl]
  exact List.filterMap_eq_map' ▸ rfl
theorem all_map_id (p : Nat → Bool) (w : Tx) : (w.map p).all id = w.all p := by
  rw [List.all_map]
  rfl
theorem nameB_cons (c : Nat) (r : Tx) : nameB (c :: r) = (decide (1 ≤ (c :: r).length ∧ (c :: r).length ≤ 12) && letter c && !kw (c :: r) && (c :: r).all alnum) := rfl
theorem name_eq (w : Tx) (hz : w.length ≤ LN) : m_is_name w = some (nameB w) := by
  unfold m_is_name
  rw [show k_KEYWORDS = (Tp.mk k_KEYWORDS).l from rfl]
  have hcomp := comp_all (w := w) (l := c2) (p := alnum) fun c => rfl
  cases w with
  | nil => rfl
  | cons c r =>
    rw [nameB_cons]
    have hix : ixS (c :: r) 0 = some [c] := ixS_n (x := c :: r) (n := 0) (by simp)
    rw [hix]
    have hin : inC [c] c0 = some (letter c) := rfl
    show Option.bind (gOr _ (Option.bind (some [c]) _)) _ = _
    rw [Option.bind_some, hin, Option.bind_some]
    by_cases h1 : 1 ≤ (c :: r).length ∧ (c :: r).length ≤ 12
    · rw [decide_eq_true h1]
      have e1 : (!(decide ((1 : Int) ≤ ((c :: r).length : Int)) && decide (((c :: r).length : Int) ≤ 12))) = false := by
        rw [decide_eq_true (by omega), decide_eq_true (by omega)]
        rfl
      unfold gOr
      rw [e1, if_neg (by decide), Option.bind_some]
      cases hl : letter c with
      | false => simp
      | true =>
        cases hk : kw (c :: r) with
        | true =>
          have hk2 : isIn (c :: r) (Tp.mk k_KEYWORDS).l = true := hk
          rw [hk2]
          rfl
        | false =>
          have hk2 : isIn (c :: r) (Tp.mk k_KEYWORDS).l = false := hk
          rw [hk2]
          show (if (false || false) = true then some false else Option.bind (compC _ _ ()) _) = _
          rw [if_neg (by decide), hcomp, Option.bind_some, lnOk_of (by rw [List.length_map]; exact hz), Option.bind_some, all_map_id]
          rfl
    · rw [decide_eq_false h1]
      have e1 : (!(decide ((1 : Int) ≤ ((c :: r).length : Int)) && decide (((c :: r).length : Int) ≤ 12))) = true := by
        rw [List.length_cons] at h1 ⊢
        rw [Bool.not_eq_true', Bool.and_eq_false_iff]
        right
        exact decide_eq_false (by omega)
      unfold gOr
      rw [e1]
      rfl
theorem num_eq (w : Tx) (hz : w.length ≤ LN) : m_is_number w = some (numB w) := by
  unfold m_is_number
  have hcomp := comp_all (w := w) (l := c1) (p := digit) fun c => rfl
  unfold numB
  cases w with
  | nil => rfl
  | cons c r =>
    have hix : ixS (c :: r) 0 = some [c] := ixS_n (x := c :: r) (n := 0) (by simp)
    rw [hix]
    show Option.bind (gOr _ (Option.bind (some [c]) _)) _ = _
    rw [Option.bind_some]
    by_cases h1 : 1 ≤ (c :: r).length ∧ (c :: r).length ≤ 9
    · rw [decide_eq_true h1]
      have e1 : (!(decide ((1 : Int) ≤ ((c :: r).length : Int)) && decide (((c :: r).length : Int) ≤ 9))) = false := by
        rw [decide_eq_true (by omega), decide_eq_true (by omega)]
        rfl
      unfold gOr
      rw [e1, if_neg (by decide), Option.bind_some]
      have e2 : decide ([c] = c3) = decide ((c :: r).head? = some 48) := by
        rw [Bool.eq_iff_iff]
        simp [c3]
      have e3 : decide ((1 : Int) < ((c :: r).length : Int)) = decide (1 < (c :: r).length) := by
        rw [Bool.eq_iff_iff, decide_eq_true_iff, decide_eq_true_iff]
        omega
      rw [e2, e3]
      cases hb : (decide ((c :: r).head? = some 48) && decide (1 < (c :: r).length)) with
      | true => rfl
      | false =>
        rw [if_neg (by decide), hcomp, Option.bind_some, lnOk_of (by rw [List.length_map]; exact hz), Option.bind_some, all_map_id]
        rfl
    · rw [decide_eq_false h1]
      have e1 : (!(decide ((1 : Int) ≤ ((c :: r).length : Int)) && decide (((c :: r).length : Int) ≤ 9))) = true := by
        rw [List.length_cons] at h1 ⊢
        rw [Bool.not_eq_true', Bool.and_eq_false_iff]
        right
        exact decide_eq_false (by omega)
      unfold gOr
      rw [e1]
      rfl
def classB (w : Tx) : Tx := if kw w then c43 else if sy w then c44 else if nameB w then c45 else if numB w then c46 else c47
theorem class_eq (w : Tx) (hz : w.length ≤ LN) : m_word_class w = some (classB w) := by
  unfold m_word_class classB
  rw [name_eq w hz, num_eq w hz]
  show (if kw w = true then some c43 else if sy w = true then some c44 else if nameB w = true then some c45 else if numB w = true then some c46 else some c47) = _
  cases kw w <;> cases sy w <;> cases nameB w <;> cases numB w <;> rfl
/-! the law's -/
theorem comp_filter {p : Nat → Bool} {l : Tx} {w : Tx} (hp : ∀ c, p c = isIn c l) : compC (fun (_ : Unit) (x : Tx) => Option.bind (inC x l) fun t => if t then some ((), some x) else some ((), none)) (w.map fun c => [c]) () = some ((), (w.filter p).map fun c => [c]) := by
  have h := compC_pure (f := fun (_ : Unit) (x : Tx) => Option.bind (inC x l) fun t => if t then some ((), some x) else some ((), none)) (g := fun x : Tx => match x with | [c] => if p c then some [c] else none | _ => none) (xs := w.map fun c => [c]) fun x hx => by
    obtain ⟨c, _, rfl⟩ := List.mem_map.mp hx
    show (if isIn c l = true then some ((), some [c]) else some ((), none)) = some ((), if p c = true then some [c] else none)
    rw [← hp c]
    cases p c <;> rfl
  rw [h, List.filterMap_map]
  congr 2
  clear h
  induction w with
  | nil => rfl
  | cons c r ih =>
    rw [List.filter_cons]
    cases e : p c with
    | true =>
      rw [if_pos rfl, List.map_cons, List.filterMap_cons_some (b := [c]) (by simp [e])]
      rw [ih]
    | false =>
      rw [if_neg (by decide), List.filterMap_cons_none (by simp [e])]
      exact ih
theorem count_split : ∀ w : Tx, (w.filter digit).length + (w.filter letter).length ≤ w.length ∧ ((w.filter digit).length + (w.filter letter).length = w.length ↔ w.all alnum = true)
  | [] => ⟨Nat.le_refl _, by simp⟩
  | c :: r => by
    obtain ⟨h1, h2⟩ := count_split r
    rw [List.filter_cons, List.filter_cons, List.all_cons, alnum_iff, List.length_cons]
    cases hl : letter c with
    | true =>
      rw [not_both c hl, if_neg (by decide), if_pos rfl, List.length_cons]
      refine ⟨by omega, ?_⟩
      rw [show ((true || false) && r.all alnum) = r.all alnum from rfl, ← h2]
      omega
    | false =>
      cases hd : digit c with
      | true =>
        rw [if_pos rfl, if_neg (by decide), List.length_cons]
        refine ⟨by omega, ?_⟩
        rw [show ((false || true) && r.all alnum) = r.all alnum from rfl, ← h2]
        omega
      | false =>
        rw [if_neg (by decide), if_neg (by decide)]
        refine ⟨by omega, ?_⟩
        rw [show ((false || false) && r.all alnum) = false from rfl]
        constructor
        · intro h
          omega
        · intro h
          cases h
theorem letters_none : ∀ w : Tx, w.all alnum = true → ((w.filter letter).length = 0 ↔ w.all digit = true)
  | [], _ => by simp
  | c :: r, h => by
    rw [List.all_cons, Bool.and_eq_true, alnum_iff] at h
    have ih := letters_none r h.2
    rw [List.filter_cons, List.all_cons]
    cases hl : letter c with
    | true =>
      rw [not_both c hl, if_pos rfl, List.length_cons]
      constructor
      · intro h; omega
      · intro h; cases h
    | false =>
      have hd : digit c = true := by
        rcases Bool.or_eq_true_iff.mp h.1 with z | z
        · rw [hl] at z
          cases z
        · exact z
      rw [hd, if_neg (by decide), Bool.true_and]
      exact ih
theorem law_class_eq (w : Tx) (hz : w.length ≤ LN) : m__law_class w = some (classB w) := by
  unfold m__law_class
  have k1 : m__law_keywords = some k_KEYWORDS := rfl
  rw [k1, Option.bind_some]
  have hkw : isIn w k_KEYWORDS = kw w := rfl
  rw [hkw]
  have c1f := comp_filter (w := w) (l := c1) (p := digit) fun c => rfl
  have c0f := comp_filter (w := w) (l := c0) (p := letter) fun c => rfl
  have hlen : ∀ p : Nat → Bool, ((w.filter p).map fun c => [c]).length ≤ LN := fun p => by
    rw [List.length_map]
    exact Nat.le_trans (List.length_filter_le _ _) hz
  unfold classB
  cases hk : kw w with
  | true => rfl
  | false =>
    rw [if_neg (by decide), if_neg (by decide)]
    have k2 : m__law_symbols = some k_SYMBOLS := rfl
    rw [k2, Option.bind_some]
    have hsy : isIn w k_SYMBOLS = sy w := rfl
    rw [hsy]
    cases hs : sy w with
    | true => rfl
    | false =>
      rw [if_neg (by decide), if_neg (by decide), c1f, Option.bind_some, lnOk_of (hlen digit), Option.bind_some, c0f, Option.bind_some, lnOk_of (hlen letter), Option.bind_some]
      show (if (decide ((w.length : Int) = 0) || decide ((((w.filter digit).map fun c => [c]).length : Int) + (((w.filter letter).map fun c => [c]).length : Int) < (w.length : Int))) = true then some c47 else _) = _
      rw [List.length_map, List.length_map]
      obtain ⟨s1, s2⟩ := count_split w
      cases w with
      | nil => rfl
      | cons c r =>
        have hnz : decide (((c :: r).length : Int) = 0) = false := decide_eq_false (by rw [List.length_cons]; omega)
        rw [hnz, Bool.false_or]
        cases ha : (c :: r).all alnum with
        | false =>
          have hlt : ((((c :: r).filter digit).length : Int) + (((c :: r).filter letter).length : Int) < ((c :: r).length : Int)) := by
            have : ¬ (((c :: r).filter digit).length + ((c :: r).filter letter).length = (c :: r).length) := fun h => by
              rw [s2.mp h] at ha
              cases ha
            omega
          rw [decide_eq_true hlt, if_pos rfl]
          have n1 : nameB (c :: r) = false := by
            unfold nameB
            rw [ha, Bool.and_false]
          have n2 : numB (c :: r) = false := by
            unfold numB
            have : (c :: r).all digit = false := by
              rw [Bool.eq_false_iff]
              intro h
              rw [Bool.eq_false_iff] at ha
              apply ha
              rw [List.all_eq_true] at h ⊢
              intro x hx
              rw [alnum_iff, h x hx, Bool.or_true]
            rw [this, Bool.and_false]
          rw [n1, n2]
          rfl
        | true =>
          have heq := s2.mpr ha
          rw [decide_eq_false (by omega), if_neg (by decide)]
          have hix : ixS (c :: r) 0 = some [c] := ixS_n (x := c :: r) (n := 0) (by simp)
          rw [hix, Option.bind_some]
          have hin : inC [c] c1 = some (digit c) := rfl
          rw [hin, Option.bind_some]
          have hc : letter c = !digit c := by
            have h := ha
            rw [List.all_cons, Bool.and_eq_true, alnum_iff] at h
            cases hl : letter c with
            | true => rw [not_both c hl]; rfl
            | false =>
              have h1 := h.1
              rw [hl, Bool.false_or] at h1
              rw [h1]
              rfl
          have hn : nameB (c :: r) = (!digit c && decide (((c :: r).length : Int) < 13)) := by
            unfold nameB
            rw [hk, ha]
            show (decide _ && letter c && !false && true) = _
            rw [hc, Bool.not_false, Bool.and_true, Bool.and_true, Bool.and_comm]
            congr 1
            rw [Bool.eq_iff_iff, decide_eq_true_iff, decide_eq_true_iff, List.length_cons]
            omega
          rw [← hn]
          cases hnm : nameB (c :: r) with
          | true => rfl
          | false =>
            rw [if_neg (by decide), if_neg (by decide)]
            have hln := letters_none _ ha
            -- the number
            have hgo : gAnd (decide ((((c :: r).filter letter).length : Int) = 0)) (Option.bind (gAnd (decide (((c :: r).length : Int) < 10)) (Option.bind (some [c]) fun t37 => some ((!decide (t37 = c3)) || decide ((c :: r) = c3)))) fun t38 => some t38) = some (numB (c :: r)) := by
              unfold numB gAnd
              cases hd : (c :: r).all digit with
              | false =>
                rw [decide_eq_false (fun h => by
                  have : ((c :: r).filter letter).length = 0 := by omega
                  rw [hln.mp this] at hd
                  cases hd), Bool.and_false]
                rfl
              | true =>
                have hl0 := hln.mpr hd
                rw [decide_eq_true (show (((c :: r).filter letter).length : Int) = 0 by omega), if_pos rfl, Bool.and_true]
                by_cases h9 : (c :: r).length ≤ 9
                · rw [decide_eq_true (show ((c :: r).length : Int) < 10 by omega), if_pos rfl, decide_eq_true (show 1 ≤ (c :: r).length ∧ (c :: r).length ≤ 9 from ⟨by rw [List.length_cons]; omega, h9⟩), Bool.true_and]
                  show some _ = some _
                  congr 1
                  rw [Bool.eq_iff_iff]
                  cases r with
                  | nil => simp [c3]
                  | cons d r => simp [c3]
                · rw [decide_eq_false (show ¬ ((c :: r).length : Int) < 10 by omega), decide_eq_false (show ¬ (1 ≤ (c :: r).length ∧ (c :: r).length ≤ 9) from fun h => h9 h.2)]
                  rfl
            rw [hgo, Option.bind_some]
            cases numB (c :: r) <;> rfl
theorem right_tot (w : Tx) (hz : w.length ≤ LN) : m__law_right w = some true := by
  unfold m__law_right
  rw [law_class_eq w hz, Option.bind_some, class_eq w hz, Option.bind_some, name_eq w hz, Option.bind_some, num_eq w hz, Option.bind_some]
  rw [if_neg (by decide)]
  congr 1
  rw [decide_eq_true rfl, Bool.true_and, Bool.and_eq_true, decide_eq_true_iff, decide_eq_true_iff]
  have kn : kw w = true → nameB w = false ∧ numB w = false := fun h => by
    have hm : w ∈ k_KEYWORDS := isIn_iff.mp h
    constructor
    · unfold nameB
      rw [h]
      simp
    · revert hm
      simp only [k_KEYWORDS, List.mem_cons, List.not_mem_nil, or_false]
      intro hm
      rcases hm with rfl | rfl | rfl | rfl | rfl | rfl | rfl | rfl | rfl | rfl | rfl | rfl | rfl | rfl | rfl <;> decide
  have sn : sy w = true → nameB w = false ∧ numB w = false := fun h => by
    have hm : w ∈ k_SYMBOLS := isIn_iff.mp h
    revert hm
    simp only [k_SYMBOLS, List.mem_cons, List.not_mem_nil, or_false]
    intro hm
    rcases hm with rfl | rfl | rfl | rfl | rfl | rfl | rfl | rfl | rfl | rfl | rfl | rfl | rfl | rfl | rfl | rfl | rfl | rfl <;> decide
  have nn : nameB w = true → numB w = false := fun h => by
    cases w with
    | nil => cases h
    | cons c r =>
      unfold nameB at h
      rw [Bool.and_eq_true, Bool.and_eq_true, Bool.and_eq_true] at h
      have hl : letter c = true := h.1.1.2
      unfold numB
      rw [List.all_cons, not_both c hl, Bool.false_and, Bool.and_false]
  unfold classB
  cases hk : kw w with
  | true =>
    obtain ⟨a, b⟩ := kn hk
    rw [a, b, if_pos rfl]
    decide
  | false =>
    rw [if_neg (by decide)]
    cases hs : sy w with
    | true =>
      obtain ⟨a, b⟩ := sn hs
      rw [a, b]
      decide
    | false =>
      rw [if_neg (by decide)]
      cases hn : nameB w with
      | true =>
        rw [nn hn]
        decide
      | false =>
        rw [if_neg (by decide)]
        cases hm : numB w <;> decide
end K00

namespace K00
open PySem L2 G
theorem tokF_mem : ∀ (n : Nat) (r : Tx), ∀ w ∈ tokF n r, w.length ≤ r.length
  | 0, _ => fun w hw => by cases hw
  | _ + 1, [] => fun w hw => by cases hw
  | n + 1, c :: r => fun w hw => by
    have hw : w ∈ (if alnum c then (c :: r.takeWhile alnum) :: tokF n (r.dropWhile alnum) else if c = 61 ∧ r.head? = some 61 then [61, 61] :: tokF n r.tail else if c = 32 ∨ c = 10 then tokF n r else [c] :: tokF n r) := hw
    have h2 := dropWhile_len alnum r
    have h3 : (r.takeWhile alnum).length ≤ r.length := (List.takeWhile_sublist (p := alnum) (l := r)).length_le
    rw [List.length_cons]
    split at hw
    · rcases List.mem_cons.mp hw with e | hw
      · rw [e, List.length_cons]; omega
      · have := tokF_mem n _ w hw; omega
    · split at hw
      · rename_i h
        rcases List.mem_cons.mp hw with e | hw
        · rw [e]
          cases r with
          | nil => cases h.2
          | cons d r => show 2 ≤ r.length + 1 + 1; omega
        · have := tokF_mem n _ w hw
          rw [List.length_tail] at this
          omega
      · split at hw
        · have := tokF_mem n _ w hw; omega
        · rcases List.mem_cons.mp hw with e | hw
          · rw [e]; show 1 ≤ r.length + 1; omega
          · have := tokF_mem n _ w hw; omega
theorem tok_mem {r w : Tx} (h : w ∈ tok r) : w.length ≤ r.length := tokF_mem _ _ w h
theorem sum_ones : ∀ {ys : List Tx}, (∀ y ∈ ys, y.length = 1) → (ys.map (·.length)).sum = ys.length
  | [], _ => rfl
  | y :: r, h => by
    rw [List.map_cons, List.sum_cons, sum_ones (fun z hz => h z (List.mem_cons_of_mem _ hz)), h y List.mem_cons_self, List.length_cons]
    omega
/-- a text of drawn signs -/
theorem drawn_tot {ds a : List Int} {signs : Tx} {xs : List Int} (hd : Draws ds) (ha : At a) (hs : 0 < signs.length) (m : Int) (hm : m = (signs.length : Int)) :
    Tot (compC (fun (s : List Int) (_ : Int) => Option.bind (m__law_take ds s m) fun t => Option.bind (ixS signs t.1) fun t2 => some (t.2, some t2)) xs a) fun r => At r.1 ∧ r.2.length = xs.length ∧ ∀ y ∈ r.2, y.length = 1 := by
  refine tot_compC (fun s => At s) (fun y : Tx => y.length = 1) ha fun s x _ hs' => ?_
  refine tot_bind (take_tot hd hs' (by omega)) fun t ht => ?_
  refine tot_bind (tot_eq (ixS_lt ht.1 (by omega))) fun t2 ht2 => tot_some ⟨ht.2.2, _, rfl, ?_⟩
  rw [ht2]
  rfl
theorem law_true (ns : List Int) (hl : ns.length ≤ 63) (_ : ∀ z ∈ ns, Builtin.Int.intBits z ≤ 1048576) : m_law ⟨ns⟩ = some true := by
  refine Tot.is ?_
  unfold m_law
  have LNv : LN = 1000000 := rfl
  refine tot_bind (draws_tot ns 110 hl ⟨by decide, by decide⟩) fun ds hd => ?_
  refine tot_bind (tot_eq (x := c7 ++ c8) rfl) fun t9 h9 => ?_
  refine tot_bind (take_tot hd ⟨0, by decide, rfl⟩ (by decide)) fun t14 h14 => ?_
  refine tot_bind (P := fun s : Tx × List Int => 0 < s.1.length ∧ At s.2) ?_ fun s15 h15 => ?_
  · refine tot_if (fun _ => ?_) fun _ => tot_some ⟨?_, h14.2.2⟩
    · refine tot_bind (take_tot hd h14.2.2 (by decide)) fun t21 h21 => ?_
      have h95 : t9.length = 95 := by rw [h9]; rfl
      refine tot_bind (tot_eq (ixS_lt h21.1 (by omega))) fun t22 h22 => ?_
      refine tot_bind (tot_eq (catS_of (by rw [h22]; show 14 + 1 ≤ LN; omega))) fun t23 h23 => tot_some ⟨?_, h21.2.2⟩
      rw [h23, List.length_append, h22]
      show 0 < 14 + 1
      omega
    · rw [h9]
      show 0 < (c7 ++ c8).length
      decide
  refine tot_bind (take_tot hd h15.2 (by decide)) fun t30 h30 => ?_
  refine tot_bind (tot_eq (rng1_of h30.1 (by omega))) fun xs hxs => ?_
  refine tot_bind (drawn_tot hd h30.2.2 h15.1 _ rfl) fun t43 h43 => ?_
  have l43 : t43.2.length ≤ 70 := by rw [h43.2.1, hxs, rngI_len]; omega
  refine tot_bind (tot_eq (lnOk_of (by omega))) fun _ _ => ?_
  have j43 := joinL_len c41 t43.2
  rw [sum_ones h43.2.2] at j43
  refine tot_bind (tot_eq (joinS_of (by rw [sum_ones h43.2.2]; show _ + _ * 0 ≤ _; omega))) fun t45 h45 => ?_
  have l45 : t45.length ≤ 70 := by
    rw [h45]
    have : c41.length = 0 := rfl
    rw [this] at j43
    omega
  refine tot_bind (tot_eq (split_tot t45 (by omega))) fun t50 h50 => ?_
  refine tot_bind (P := fun b : Bool => b = false) (tot_gOr (fun _ => ?_) fun h => by cases h) fun t56 h56 => ?_
  · refine tot_bind (tot_eq (words_tot t45 (by omega))) fun t55 h55 => tot_some ?_
    rw [h50, h55, decide_eq_true rfl]
    rfl
  subst h56
  refine tot_if (fun h => by cases h) fun _ => ?_
  refine tot_bind (take_tot hd h43.1 (by decide)) fun t59 h59 => ?_
  refine tot_bind (tot_eq (rng1_of (by omega) (by omega))) fun xs60 hxs60 => ?_
  refine tot_bind (drawn_tot hd h59.2.2 (signs := c49) (by decide) _ rfl) fun t68 h68 => ?_
  have l68 : t68.2.length ≤ 14 := by rw [h68.2.1, hxs60, rngI_len]; omega
  refine tot_bind (tot_eq (lnOk_of (by omega))) fun _ _ => ?_
  have j68 := joinL_len c41 t68.2
  rw [sum_ones h68.2.2] at j68
  refine tot_bind (tot_eq (joinS_of (by rw [sum_ones h68.2.2]; show _ + _ * 0 ≤ _; omega))) fun t70 h70 => ?_
  have l70 : t70.length ≤ 14 := by
    rw [h70]
    have : c41.length = 0 := rfl
    rw [this] at j68
    omega
  refine tot_bind (take_tot hd h68.1 (by decide)) fun t75 h75 => ?_
  refine tot_bind (tot_eq (rng1_of (by omega) (by omega))) fun xs76 hxs76 => ?_
  refine tot_bind (drawn_tot hd h75.2.2 (signs := c1) (by decide) _ rfl) fun t84 h84 => ?_
  have l84 : t84.2.length ≤ 11 := by rw [h84.2.1, hxs76, rngI_len]; omega
  refine tot_bind (tot_eq (lnOk_of (by omega))) fun _ _ => ?_
  have j84 := joinL_len c41 t84.2
  rw [sum_ones h84.2.2] at j84
  refine tot_bind (tot_eq (joinS_of (by rw [sum_ones h84.2.2]; show _ + _ * 0 ≤ _; omega))) fun t86 h86 => ?_
  have l86 : t86.length ≤ 11 := by
    rw [h86]
    have : c41.length = 0 := rfl
    rw [this] at j84
    omega
  refine tot_bind (tot_eq (catS_of (by show 1 + t86.length ≤ LN; omega))) fun t91 h91 => ?_
  refine tot_bind (tot_eq (catS_of (by show t70.length + 1 ≤ LN; omega))) fun t92 h92 => ?_
  have l91 : t91.length ≤ 12 := by rw [h91, List.length_append]; show 1 + t86.length ≤ 12; omega
  have l92 : t92.length ≤ 15 := by rw [h92, List.length_append]; show t70.length + 1 ≤ 15; omega
  refine tot_bind (tot_eq (x := mulL 12 c50) rfl) fun t93 h93 => ?_
  refine tot_bind (tot_eq (x := mulL 13 c50) rfl) fun t94 h94 => ?_
  refine tot_bind (tot_eq (x := mulL 9 c52) rfl) fun t95 h95 => ?_
  refine tot_bind (tot_eq (x := mulL 10 c52) rfl) fun t96 h96 => ?_
  have l50 : t50.length ≤ 70 := by
    rw [h50]
    exact Nat.le_trans (tok_len _) l45
  refine tot_bind (tot_eq (catL_of (by show t50.length + 13 ≤ LN; omega))) fun t97 h97 => ?_
  have l97 : t97.length ≤ 83 := by rw [h97, List.length_append]; show t50.length + 13 ≤ 83; omega
  refine tot_bind (tot_eq (x := k_KEYWORDS) rfl) fun t102 h102 => ?_
  refine tot_bind (tot_eq (catL_of (by rw [h102]; show t97.length + 15 ≤ LN; omega))) fun t103 h103 => ?_
  have l103 : t103.length ≤ 98 := by rw [h103, List.length_append, h102]; show t97.length + 15 ≤ 98; omega
  refine tot_bind (tot_eq (x := k_SYMBOLS) rfl) fun t104 h104 => ?_
  refine tot_bind (tot_eq (catL_of (by rw [h104]; show t103.length + 18 ≤ LN; omega))) fun t105 h105 => ?_
  -- each word is right
  have small : ∀ x ∈ t105, x.length ≤ LN := fun x hx => by
    rw [h105, h103, h97, h102, h104] at hx
    rcases List.mem_append.mp hx with hx | hx
    · rcases List.mem_append.mp hx with hx | hx
      · rcases List.mem_append.mp hx with hx | hx
        · rw [h50] at hx
          have := tok_mem hx
          omega
        · have hc : ∀ y ∈ [t70, t86, t91, t92, c41, t93, t94, t95, t96, c3, c53, c54, c55], y.length ≤ 15 := by
            rw [h93, h94, h95, h96]
            intro y hy
            simp only [List.mem_cons, List.not_mem_nil, or_false] at hy
            rcases hy with rfl | rfl | rfl | rfl | rfl | rfl | rfl | rfl | rfl | rfl | rfl | rfl | rfl <;> first | omega | decide
          have := hc x hx
          omega
      · have hc : ∀ y ∈ k_KEYWORDS, y.length ≤ 15 := by decide
        have := hc x hx
        omega
    · have hc : ∀ y ∈ k_SYMBOLS, y.length ≤ 15 := by decide
      have := hc x hx
      omega
  refine tot_bind (tot_forC1 (R := Bool) (fun _ : Unit => True) (fun c => ∃ u, c = .nx u) trivial (fun s x hx _ => ?_) fun s _ => ⟨s, rfl⟩) fun c hc => ?_
  · refine tot_bind (tot_eq (right_tot x (small x hx))) fun t ht => ?_
    subst ht
    exact tot_if (fun h => by cases h) fun _ => tot_some trivial
  obtain ⟨u, rfl⟩ := hc
  have cat : catL k_KEYWORDS k_SYMBOLS = some (k_KEYWORDS ++ k_SYMBOLS) := rfl
  refine tot_bind (tot_eq (x := k_KEYWORDS) rfl) fun t125 h125 => ?_
  refine tot_bind (tot_eq (x := k_SYMBOLS) rfl) fun t126 h126 => ?_
  subst h125 h126
  refine tot_bind (tot_eq cat) fun t127 h127 => ?_
  subst h127
  refine tot_bind (tot_eq (x := joinL c5 (k_KEYWORDS ++ k_SYMBOLS)) rfl) fun t128 h128 => ?_
  subst h128
  refine tot_bind (tot_eq (split_tot _ (by decide))) fun t129 h129 => ?_
  have e : tok (joinL c5 (k_KEYWORDS ++ k_SYMBOLS)) = k_KEYWORDS ++ k_SYMBOLS := by decide +kernel
  rw [e] at h129
  subst h129
  refine tot_bind (tot_eq (x := k_KEYWORDS) rfl) fun t130 h130 => ?_
  refine tot_bind (tot_eq (x := k_SYMBOLS) rfl) fun t131 h131 => ?_
  subst h130 h131
  refine tot_bind (tot_eq cat) fun t132 h132 => ?_
  subst h132
  rw [decide_eq_true rfl]
  exact tot_if (fun h => by cases h) fun _ => tot_some (by decide)
end K00


namespace K00
open PySem PySem.Spec PyProof.Rows L2 G
def topS (i : Nat) : Stmt := PySem.Challenge.pw_everyproduct_k00_words_of_plain_texts.main.body.getD i (.Pass ⟨0, 0, 0, 0⟩)
abbrev s_is_name : Stmt := topS 9
abbrev N_is_name : List Str := ["word", "sign"]
theorem sc_is_name : FnScope N_is_name ["word"] (defScope s_is_name) := ⟨rfl, rfl, rfl, by decide +kernel, rfl, by decide +kernel, by decide +kernel⟩
abbrev s_is_number : Stmt := topS 10
abbrev N_is_number : List Str := ["word", "sign"]
theorem sc_is_number : FnScope N_is_number ["word"] (defScope s_is_number) := ⟨rfl, rfl, rfl, by decide +kernel, rfl, by decide +kernel, by decide +kernel⟩
abbrev s_split_words : Stmt := topS 12
abbrev N_split_words : List Str := ["text", "words", "at", "end"]
theorem sc_split_words : FnScope N_split_words ["text"] (defScope s_split_words) := ⟨rfl, rfl, rfl, by decide +kernel, rfl, by decide +kernel, by decide +kernel⟩
abbrev s__law_draws : Stmt := topS 14
abbrev N__law_draws : List Str := ["script", "count", "draws", "state", "cell", "number", "k"]
theorem sc__law_draws : FnScope N__law_draws ["script", "count"] (defScope s__law_draws) := ⟨rfl, rfl, rfl, by decide +kernel, rfl, by decide +kernel, by decide +kernel⟩
abbrev s__law_take : Stmt := topS 15
abbrev N__law_take : List Str := ["draws", "at", "many"]
theorem sc__law_take : FnScope N__law_take ["draws", "at", "many"] (defScope s__law_take) := ⟨rfl, rfl, rfl, by decide +kernel, rfl, by decide +kernel, by decide +kernel⟩
abbrev s__law_signs : Stmt := topS 16
abbrev N__law_signs : List Str := ["signs"]
theorem sc__law_signs : FnScope N__law_signs [] (defScope s__law_signs) := ⟨rfl, rfl, rfl, by decide +kernel, rfl, by decide +kernel, by decide +kernel⟩
abbrev s__law_keywords : Stmt := topS 17
abbrev N__law_keywords : List Str := ["words"]
theorem sc__law_keywords : FnScope N__law_keywords [] (defScope s__law_keywords) := ⟨rfl, rfl, rfl, by decide +kernel, rfl, by decide +kernel, by decide +kernel⟩
abbrev s__law_symbols : Stmt := topS 18
abbrev N__law_symbols : List Str := []
theorem sc__law_symbols : FnScope N__law_symbols [] (defScope s__law_symbols) := ⟨rfl, rfl, rfl, by decide +kernel, rfl, by decide +kernel, by decide +kernel⟩
abbrev s__law_words : Stmt := topS 19
abbrev N__law_words : List Str := ["text", "small", "words", "word", "skip", "k", "one"]
theorem sc__law_words : FnScope N__law_words ["text"] (defScope s__law_words) := ⟨rfl, rfl, rfl, by decide +kernel, rfl, by decide +kernel, by decide +kernel⟩
abbrev s_word_class : Stmt := topS 11
abbrev N_word_class : List Str := ["word"]
theorem sc_word_class : FnScope N_word_class ["word"] (defScope s_word_class) := ⟨rfl, rfl, rfl, by decide +kernel, rfl, by decide +kernel, by decide +kernel⟩
abbrev s__law_class : Stmt := topS 20
abbrev N__law_class : List Str := ["word", "digits", "letters", "sign"]
theorem sc__law_class : FnScope N__law_class ["word"] (defScope s__law_class) := ⟨rfl, rfl, rfl, by decide +kernel, rfl, by decide +kernel, by decide +kernel⟩
abbrev s__law_right : Stmt := topS 21
abbrev N__law_right : List Str := ["word", "due", "told", "name", "number"]
theorem sc__law_right : FnScope N__law_right ["word"] (defScope s__law_right) := ⟨rfl, rfl, rfl, by decide +kernel, rfl, by decide +kernel, by decide +kernel⟩
abbrev s_law : Stmt := topS 22
abbrev N_law : List Str := ["script", "draws", "at", "signs", "size", "text", "told", "word", "digits", "words", "one", "levels", "k"]
theorem sc_law : FnScope N_law ["script"] (defScope s_law) := ⟨rfl, rfl, rfl, by decide +kernel, rfl, by decide +kernel, by decide +kernel⟩
section
variable {K : FR} {σ : L2.St} {F : Hp} {O : OS}
theorem ev_c0 : Ev K (tC (.str "abcdefghijklmnopqrstuvwxyz")) σ F O O c0 := ev_lit (by decide +kernel) (by decide +kernel)
theorem ev_c1 : Ev K (tC (.str "0123456789")) σ F O O c1 := ev_lit (by decide +kernel) (by decide +kernel)
theorem ev_c2 : Ev K (tC (.str "abcdefghijklmnopqrstuvwxyz0123456789")) σ F O O c2 := ev_lit (by decide +kernel) (by decide +kernel)
theorem ev_c3 : Ev K (tC (.str "0")) σ F O O c3 := ev_lit (by decide +kernel) (by decide +kernel)
theorem ev_c4 : Ev K (tC (.str "==")) σ F O O c4 := ev_lit (by decide +kernel) (by decide +kernel)
theorem ev_c5 : Ev K (tC (.str " ")) σ F O O c5 := ev_lit (by decide +kernel) (by decide +kernel)
theorem ev_c6 : Ev K (tC (.str "\n")) σ F O O c6 := ev_lit (by decide +kernel) (by decide +kernel)
theorem ev_c7 : Ev K (tC (.str " !\"#$&'()*+,-./0123456789:;<=>?@ABCDEFGHIJKLMNOPQRSTUVWXYZ[\\]^_`")) σ F O O c7 := ev_lit (by decide +kernel) (by decide +kernel)
theorem ev_c8 : Ev K (tC (.str "abcdefghijklmnopqrstuvwxyz{|}~\n")) σ F O O c8 := ev_lit (by decide +kernel) (by decide +kernel)
theorem ev_c9 : Ev K (tC (.str "call")) σ F O O c9 := ev_lit (by decide +kernel) (by decide +kernel)
theorem ev_c10 : Ev K (tC (.str "do")) σ F O O c10 := ev_lit (by decide +kernel) (by decide +kernel)
theorem ev_c11 : Ev K (tC (.str "else")) σ F O O c11 := ev_lit (by decide +kernel) (by decide +kernel)
theorem ev_c12 : Ev K (tC (.str "false")) σ F O O c12 := ev_lit (by decide +kernel) (by decide +kernel)
theorem ev_c13 : Ev K (tC (.str "fun")) σ F O O c13 := ev_lit (by decide +kernel) (by decide +kernel)
theorem ev_c14 : Ev K (tC (.str "if")) σ F O O c14 := ev_lit (by decide +kernel) (by decide +kernel)
theorem ev_c15 : Ev K (tC (.str "let")) σ F O O c15 := ev_lit (by decide +kernel) (by decide +kernel)
theorem ev_c16 : Ev K (tC (.str "print")) σ F O O c16 := ev_lit (by decide +kernel) (by decide +kernel)
theorem ev_c17 : Ev K (tC (.str "read")) σ F O O c17 := ev_lit (by decide +kernel) (by decide +kernel)
theorem ev_c18 : Ev K (tC (.str "return")) σ F O O c18 := ev_lit (by decide +kernel) (by decide +kernel)
theorem ev_c19 : Ev K (tC (.str "row")) σ F O O c19 := ev_lit (by decide +kernel) (by decide +kernel)
theorem ev_c20 : Ev K (tC (.str "set")) σ F O O c20 := ev_lit (by decide +kernel) (by decide +kernel)
theorem ev_c21 : Ev K (tC (.str "size")) σ F O O c21 := ev_lit (by decide +kernel) (by decide +kernel)
theorem ev_c22 : Ev K (tC (.str "true")) σ F O O c22 := ev_lit (by decide +kernel) (by decide +kernel)
theorem ev_c23 : Ev K (tC (.str "while")) σ F O O c23 := ev_lit (by decide +kernel) (by decide +kernel)
theorem ev_c24 : Ev K (tC (.str "!")) σ F O O c24 := ev_lit (by decide +kernel) (by decide +kernel)
theorem ev_c25 : Ev K (tC (.str "&")) σ F O O c25 := ev_lit (by decide +kernel) (by decide +kernel)
theorem ev_c26 : Ev K (tC (.str "(")) σ F O O c26 := ev_lit (by decide +kernel) (by decide +kernel)
theorem ev_c27 : Ev K (tC (.str ")")) σ F O O c27 := ev_lit (by decide +kernel) (by decide +kernel)
theorem ev_c28 : Ev K (tC (.str "*")) σ F O O c28 := ev_lit (by decide +kernel) (by decide +kernel)
theorem ev_c29 : Ev K (tC (.str "+")) σ F O O c29 := ev_lit (by decide +kernel) (by decide +kernel)
theorem ev_c30 : Ev K (tC (.str ",")) σ F O O c30 := ev_lit (by decide +kernel) (by decide +kernel)
theorem ev_c31 : Ev K (tC (.str "-")) σ F O O c31 := ev_lit (by decide +kernel) (by decide +kernel)
theorem ev_c32 : Ev K (tC (.str "/")) σ F O O c32 := ev_lit (by decide +kernel) (by decide +kernel)
theorem ev_c33 : Ev K (tC (.str ";")) σ F O O c33 := ev_lit (by decide +kernel) (by decide +kernel)
theorem ev_c34 : Ev K (tC (.str "<")) σ F O O c34 := ev_lit (by decide +kernel) (by decide +kernel)
theorem ev_c35 : Ev K (tC (.str "=")) σ F O O c35 := ev_lit (by decide +kernel) (by decide +kernel)
theorem ev_c36 : Ev K (tC (.str "[")) σ F O O c36 := ev_lit (by decide +kernel) (by decide +kernel)
theorem ev_c37 : Ev K (tC (.str "]")) σ F O O c37 := ev_lit (by decide +kernel) (by decide +kernel)
theorem ev_c38 : Ev K (tC (.str "{")) σ F O O c38 := ev_lit (by decide +kernel) (by decide +kernel)
theorem ev_c39 : Ev K (tC (.str "|")) σ F O O c39 := ev_lit (by decide +kernel) (by decide +kernel)
theorem ev_c40 : Ev K (tC (.str "}")) σ F O O c40 := ev_lit (by decide +kernel) (by decide +kernel)
theorem ev_c41 : Ev K (tC (.str "")) σ F O O c41 := ev_lit (by decide +kernel) (by decide +kernel)
theorem ev_c42 : Ev K (tC (.str " \n")) σ F O O c42 := ev_lit (by decide +kernel) (by decide +kernel)
theorem ev_c43 : Ev K (tC (.str "keyword")) σ F O O c43 := ev_lit (by decide +kernel) (by decide +kernel)
theorem ev_c44 : Ev K (tC (.str "symbol")) σ F O O c44 := ev_lit (by decide +kernel) (by decide +kernel)
theorem ev_c45 : Ev K (tC (.str "name")) σ F O O c45 := ev_lit (by decide +kernel) (by decide +kernel)
theorem ev_c46 : Ev K (tC (.str "number")) σ F O O c46 := ev_lit (by decide +kernel) (by decide +kernel)
theorem ev_c47 : Ev K (tC (.str "other")) σ F O O c47 := ev_lit (by decide +kernel) (by decide +kernel)
theorem ev_c48 : Ev K (tC (.str "ab019z ==  =;\n")) σ F O O c48 := ev_lit (by decide +kernel) (by decide +kernel)
theorem ev_c49 : Ev K (tC (.str "a0b19cz")) σ F O O c49 := ev_lit (by decide +kernel) (by decide +kernel)
theorem ev_c50 : Ev K (tC (.str "a")) σ F O O c50 := ev_lit (by decide +kernel) (by decide +kernel)
theorem ev_c51 : Ev K (tC (.str "Z")) σ F O O c51 := ev_lit (by decide +kernel) (by decide +kernel)
theorem ev_c52 : Ev K (tC (.str "9")) σ F O O c52 := ev_lit (by decide +kernel) (by decide +kernel)
theorem ev_c53 : Ev K (tC (.str "00")) σ F O O c53 := ev_lit (by decide +kernel) (by decide +kernel)
theorem ev_c54 : Ev K (tC (.str "a_b")) σ F O O c54 := ev_lit (by decide +kernel) (by decide +kernel)
theorem ev_c55 : Ev K (tC (.str "===")) σ F O O c55 := ev_lit (by decide +kernel) (by decide +kernel)
end
structure Mf (K : FR) (mg : Str → Option Value) (w : World) where
  z_abs : mg "abs" = none
  z_all : mg "all" = none
  z_bool : mg "bool" = none
  z_int : mg "int" = none
  z_isinstance : mg "isinstance" = none
  z_len : mg "len" = none
  z_list : mg "list" = none
  z_max : mg "max" = none
  z_range : mg "range" = none
  z_str : mg "str" = none
  a_KEYWORDS : Addr
  g_KEYWORDS : mg "KEYWORDS" = some (.ref a_KEYWORDS)
  r_KEYWORDS : ∀ {F : Hp}, rep K F (.ref a_KEYWORDS) (Tp.mk k_KEYWORDS)
  a_LEVELS : Addr
  es_LEVELS : Array DictEntry
  n_LEVELS : Nat
  g_LEVELS : mg "LEVELS" = some (.ref a_LEVELS)
  D_LEVELS : KDict K w a_LEVELS es_LEVELS n_LEVELS
  nd_LEVELS : (es_LEVELS.toList.map keyS).Nodup
  ln_LEVELS : es_LEVELS.toList.length = 8
  ku_LEVELS_0 : Value
  kn_LEVELS_0 : PySem.W.nsIn K a_LEVELS "|" = some (some ku_LEVELS_0)
  kt_LEVELS_0 : ∃ t, ku_LEVELS_0 = .int 1 t
  ku_LEVELS_1 : Value
  kn_LEVELS_1 : PySem.W.nsIn K a_LEVELS "&" = some (some ku_LEVELS_1)
  kt_LEVELS_1 : ∃ t, ku_LEVELS_1 = .int 2 t
  ku_LEVELS_2 : Value
  kn_LEVELS_2 : PySem.W.nsIn K a_LEVELS "==" = some (some ku_LEVELS_2)
  kt_LEVELS_2 : ∃ t, ku_LEVELS_2 = .int 3 t
  ku_LEVELS_3 : Value
  kn_LEVELS_3 : PySem.W.nsIn K a_LEVELS "<" = some (some ku_LEVELS_3)
  kt_LEVELS_3 : ∃ t, ku_LEVELS_3 = .int 3 t
  ku_LEVELS_4 : Value
  kn_LEVELS_4 : PySem.W.nsIn K a_LEVELS "+" = some (some ku_LEVELS_4)
  kt_LEVELS_4 : ∃ t, ku_LEVELS_4 = .int 4 t
  ku_LEVELS_5 : Value
  kn_LEVELS_5 : PySem.W.nsIn K a_LEVELS "-" = some (some ku_LEVELS_5)
  kt_LEVELS_5 : ∃ t, ku_LEVELS_5 = .int 4 t
  ku_LEVELS_6 : Value
  kn_LEVELS_6 : PySem.W.nsIn K a_LEVELS "*" = some (some ku_LEVELS_6)
  kt_LEVELS_6 : ∃ t, ku_LEVELS_6 = .int 5 t
  ku_LEVELS_7 : Value
  kn_LEVELS_7 : PySem.W.nsIn K a_LEVELS "/" = some (some ku_LEVELS_7)
  kt_LEVELS_7 : ∃ t, ku_LEVELS_7 = .int 5 t
  t_LETTERS : Tok
  g_LETTERS : mg "LETTERS" = some (.str "abcdefghijklmnopqrstuvwxyz" t_LETTERS)
  t_DIGITS : Tok
  g_DIGITS : mg "DIGITS" = some (.str "0123456789" t_DIGITS)
  t_WORD_SIGNS : Tok
  g_WORD_SIGNS : mg "WORD_SIGNS" = some (.str "abcdefghijklmnopqrstuvwxyz0123456789" t_WORD_SIGNS)
  a_SYMBOLS : Addr
  g_SYMBOLS : mg "SYMBOLS" = some (.ref a_SYMBOLS)
  r_SYMBOLS : ∀ {F : Hp}, rep K F (.ref a_SYMBOLS) (Tp.mk k_SYMBOLS)
  t_NAME_SIGNS : Tok
  g_NAME_SIGNS : mg "NAME_SIGNS" = some (.int (12 : Int) t_NAME_SIGNS)
  t_NUMBER_DIGITS : Tok
  g_NUMBER_DIGITS : mg "NUMBER_DIGITS" = some (.int (9 : Int) t_NUMBER_DIGITS)
  f_is_name : Addr
  fd_is_name : FuncData
  F_is_name : Fun K "is_name" "is_name" s_is_name f_is_name fd_is_name
  g_is_name : mg "is_name" = some (.ref f_is_name)
  b_is_name : Binds K fd_is_name ["word"] []
  f_is_number : Addr
  fd_is_number : FuncData
  F_is_number : Fun K "is_number" "is_number" s_is_number f_is_number fd_is_number
  g_is_number : mg "is_number" = some (.ref f_is_number)
  b_is_number : Binds K fd_is_number ["word"] []
  f_split_words : Addr
  fd_split_words : FuncData
  F_split_words : Fun K "split_words" "split_words" s_split_words f_split_words fd_split_words
  g_split_words : mg "split_words" = some (.ref f_split_words)
  b_split_words : Binds K fd_split_words ["text"] []
  f__law_draws : Addr
  fd__law_draws : FuncData
  F__law_draws : Fun K "_law_draws" "_law_draws" s__law_draws f__law_draws fd__law_draws
  g__law_draws : mg "_law_draws" = some (.ref f__law_draws)
  b__law_draws : Binds K fd__law_draws ["script", "count"] []
  f__law_take : Addr
  fd__law_take : FuncData
  F__law_take : Fun K "_law_take" "_law_take" s__law_take f__law_take fd__law_take
  g__law_take : mg "_law_take" = some (.ref f__law_take)
  b__law_take : Binds K fd__law_take ["draws", "at", "many"] []
  f__law_signs : Addr
  fd__law_signs : FuncData
  F__law_signs : Fun K "_law_signs" "_law_signs" s__law_signs f__law_signs fd__law_signs
  g__law_signs : mg "_law_signs" = some (.ref f__law_signs)
  b__law_signs : Binds K fd__law_signs [] []
  f__law_keywords : Addr
  fd__law_keywords : FuncData
  F__law_keywords : Fun K "_law_keywords" "_law_keywords" s__law_keywords f__law_keywords fd__law_keywords
  g__law_keywords : mg "_law_keywords" = some (.ref f__law_keywords)
  b__law_keywords : Binds K fd__law_keywords [] []
  f__law_symbols : Addr
  fd__law_symbols : FuncData
  F__law_symbols : Fun K "_law_symbols" "_law_symbols" s__law_symbols f__law_symbols fd__law_symbols
  g__law_symbols : mg "_law_symbols" = some (.ref f__law_symbols)
  b__law_symbols : Binds K fd__law_symbols [] []
  f__law_words : Addr
  fd__law_words : FuncData
  F__law_words : Fun K "_law_words" "_law_words" s__law_words f__law_words fd__law_words
  g__law_words : mg "_law_words" = some (.ref f__law_words)
  b__law_words : Binds K fd__law_words ["text"] []
  f_word_class : Addr
  fd_word_class : FuncData
  F_word_class : Fun K "word_class" "word_class" s_word_class f_word_class fd_word_class
  g_word_class : mg "word_class" = some (.ref f_word_class)
  b_word_class : Binds K fd_word_class ["word"] []
  f__law_class : Addr
  fd__law_class : FuncData
  F__law_class : Fun K "_law_class" "_law_class" s__law_class f__law_class fd__law_class
  g__law_class : mg "_law_class" = some (.ref f__law_class)
  b__law_class : Binds K fd__law_class ["word"] []
  f__law_right : Addr
  fd__law_right : FuncData
  F__law_right : Fun K "_law_right" "_law_right" s__law_right f__law_right fd__law_right
  g__law_right : mg "_law_right" = some (.ref f__law_right)
  b__law_right : Binds K fd__law_right ["word"] []
  f_law : Addr
  fd_law : FuncData
  F_law : Fun K "law" "law" s_law f_law fd_law
  g_law : mg "law" = some (.ref f_law)
  b_law : Binds K fd_law ["script"] []
section
variable {P : Program} {w : World} {K : FR} {mg : Str → Option Value} {base : Heap}
abbrev q_is_name := fun x : (List Nat) × Unit => m_is_name x.1
abbrev sp_is_name (K : FR) : Sp := spPure K q_is_name
theorem ok_is_name (T : Mf K mg w) : FnOk P w K mg base CX0 1 T.f_is_name T.fd_is_name ["word"] (sp_is_name K) := by
  refine T.F_is_name.ok sc_is_name (fun vs H Q E h => ?_) (fun cdv A outer s H0 vs Q E hr h => ?_)
  · obtain ⟨_, _, _, _, hx, _⟩ := h
    obtain ⟨v_word, _, rfl, h_word, rfl⟩ := hx
    rfl
  · obtain ⟨F0, R, ⟨p_word, _⟩, r, hx, hS, hm, q⟩ := h
    obtain ⟨v_word, _, rfl, h_word, rfl⟩ := hx
    have h_word : rep K F0 v_word p_word := h_word
    have hm : m_is_name p_word = some r := hm
    unfold m_is_name at hm
    have E0 := Same.refl F0
    refine ⟨_, (pss_cons (ps_if (PW.pt (pw_or (pt_not (pt_chain op_le op_le pe_int (pe_callB call_len_str (by rfl) T.z_len PySem.boot_len (pa_cons (pv 0) pa_nil)) (pe_glob (v := .int (12 : Int)) rfl T.g_NAME_SIGNS ⟨_, rfl⟩))) (pw_or (pt_cmpR op_notIn_sign (pe_ix ix_str (pv 0) pe_int (fun _ _ => rfl)) (pe_glob (v := .str "abcdefghijklmnopqrstuvwxyz") rfl T.g_LETTERS ⟨_, rfl⟩) (by rfl)) (pw_or1 (pt_cmpR op_in_seq (pv 0) (pe_glob (v := .ref T.a_KEYWORDS) rfl T.g_KEYWORDS rfl) (by rfl)))))) (pss_cons (ps_ret pe_bl)
       pss_nil) pss_nil)
       (pss_cons (ps_ret (pe_callB (cr_all rfl) (by rfl) T.z_all (by decide +kernel) (pa_cons (pe_lc (own := [("sign", 1)]) (g := gName 1) rfl sc_is_name.nd (pi_str (pv 0)) (blkOk_by (N := N_is_name) (sc := defScope s_is_name) (by decide +kernel)) (fun _ _ _ _ _ => pg_name (i := 1) sc_is_name.nd rfl (by first | exact Or.inl rfl | exact Or.inr rfl)) (fun _ _ _ _ _ => pts_nil) (fun _ _ _ _ _ => (pe_cmpR op_in_sign (pv 1) (pe_glob (v := .str "abcdefghijklmnopqrstuvwxyz0123456789") rfl T.g_WORD_SIGNS ⟨_, rfl⟩) (by rfl)))) pa_nil)))
       pss_nil)), ?_⟩
    refine start_is (σ' := [some v_word, none]) rfl ?_
    obtain ⟨t3, ht3, hm⟩ := Option.bind_eq_some_iff.mp hm
    refine q_if (K := K) (b := t3) hS (evt_orM ht3 (evt_not (evt_test (ev_chain ev_int (ev_lenS (ev_var rfl h_word)) rv_le (fun _ => ev_int) rv_le))) (fun _ b hb => by
      obtain ⟨t1, ht1, hb⟩ := Option.bind_eq_some_iff.mp hb
      obtain ⟨t2, ht2, hb⟩ := Option.bind_eq_some_iff.mp hb
      cases hb
      exact (evt_or (evt_test (ev_niS (ev_ixS (ev_var rfl h_word) ev_int ht1) ev_c0 ht2)) (fun _ => (evt_test (ev_inT (ev_var rfl h_word) (ev_c T.r_KEYWORDS))))))) (fun hb F4 H5 e (hS : Hd K F4 (R) H5) => ?_) (fun hb F4 H5 e (hS : Hd K F4 (R) H5) => ?_)
    · have hm := if_t hb hm
      have h_word := mono e h_word
      have E0 := E0.trans e
      cases hm
      exact q_ret (K := K) hS ev_bl (fun v F H e hS hv => q v F H (E0.trans e) (hS.sub (List.Sublist.refl _)) hv)
    · have hm := if_f hb hm
      have h_word := mono e h_word
      have E0 := E0.trans e
      refine s_then ?_
      obtain ⟨t12, ht12, hm⟩ := Option.bind_eq_some_iff.mp hm
      obtain ⟨nt12, hnt12, hm⟩ := Option.bind_eq_some_iff.mp hm
      cases hm
      exact q_ret (K := K) hS (ev_all (EvN.fz rfl (evn_lcC (vs := [1]) (s0 := ()) (fun (s7 : Unit) => R) (fun v8 => [some v_word, some v8]) (ei_str (ev_var rfl h_word)) ht12 (fun _ _ _ => trivial) (lnOk_le hnt12) (fun v8 _ _ q => q) (fun _ => rfl) (fun s7 x6 r v8 Fc13 D9 ac10 hb e_c hx6 => by
        have h_word := mono e_c h_word
        refine ⟨true, evt_yes, fun hc => (by cases hc), fun hc => ?_⟩
        obtain ⟨t11, ht11, hb⟩ := Option.bind_eq_some_iff.mp hb
        cases hb
        exact ⟨_, rfl, (ev_inS (ev_var rfl hx6) ev_c2 ht11)⟩)
        )) lst_f) (fun v F H e hS hv => q v F H (E0.trans e) (hS.sub (List.Sublist.refl _)) hv)
abbrev q_is_number := fun x : (List Nat) × Unit => m_is_number x.1
abbrev sp_is_number (K : FR) : Sp := spPure K q_is_number
theorem ok_is_number (T : Mf K mg w) : FnOk P w K mg base CX0 1 T.f_is_number T.fd_is_number ["word"] (sp_is_number K) := by
  refine T.F_is_number.ok sc_is_number (fun vs H Q E h => ?_) (fun cdv A outer s H0 vs Q E hr h => ?_)
  · obtain ⟨_, _, _, _, hx, _⟩ := h
    obtain ⟨v_word, _, rfl, h_word, rfl⟩ := hx
    rfl
  · obtain ⟨F0, R, ⟨p_word, _⟩, r, hx, hS, hm, q⟩ := h
    obtain ⟨v_word, _, rfl, h_word, rfl⟩ := hx
    have h_word : rep K F0 v_word p_word := h_word
    have hm : m_is_number p_word = some r := hm
    unfold m_is_number at hm
    have E0 := Same.refl F0
    refine ⟨_, (pss_cons (ps_if (PW.pt (pw_or (pt_not (pt_chain op_le op_le pe_int (pe_callB call_len_str (by rfl) T.z_len PySem.boot_len (pa_cons (pv 0) pa_nil)) (pe_glob (v := .int (9 : Int)) rfl T.g_NUMBER_DIGITS ⟨_, rfl⟩))) (pw_or1 (PW.pt (pw_and (pt_cmpR op_eq (pe_ix ix_str (pv 0) pe_int (fun _ _ => rfl)) pe_str (by rfl)) (pw_and1 (pt_cmpR op_gt (pe_callB call_len_str (by rfl) T.z_len PySem.boot_len (pa_cons (pv 0) pa_nil)) pe_int (by rfl)))))))) (pss_cons (ps_ret pe_bl)
       pss_nil) pss_nil)
       (pss_cons (ps_ret (pe_callB (cr_all rfl) (by rfl) T.z_all (by decide +kernel) (pa_cons (pe_lc (own := [("sign", 1)]) (g := gName 1) rfl sc_is_number.nd (pi_str (pv 0)) (blkOk_by (N := N_is_number) (sc := defScope s_is_number) (by decide +kernel)) (fun _ _ _ _ _ => pg_name (i := 1) sc_is_number.nd rfl (by first | exact Or.inl rfl | exact Or.inr rfl)) (fun _ _ _ _ _ => pts_nil) (fun _ _ _ _ _ => (pe_cmpR op_in_sign (pv 1) (pe_glob (v := .str "0123456789") rfl T.g_DIGITS ⟨_, rfl⟩) (by rfl)))) pa_nil)))
       pss_nil)), ?_⟩
    refine start_is (σ' := [some v_word, none]) rfl ?_
    obtain ⟨t2, ht2, hm⟩ := Option.bind_eq_some_iff.mp hm
    refine q_if (K := K) (b := t2) hS (evt_orM ht2 (evt_not (evt_test (ev_chain ev_int (ev_lenS (ev_var rfl h_word)) rv_le (fun _ => ev_int) rv_le))) (fun _ b hb => by
      obtain ⟨t1, ht1, hb⟩ := Option.bind_eq_some_iff.mp hb
      cases hb
      exact (evt_and (evt_test (ev_eqS (ev_ixS (ev_var rfl h_word) ev_int ht1) ev_c3)) (fun _ => (evt_test (ev_gt (ev_lenS (ev_var rfl h_word)) ev_int)))))) (fun hb F3 H4 e (hS : Hd K F3 (R) H4) => ?_) (fun hb F3 H4 e (hS : Hd K F3 (R) H4) => ?_)
    · have hm := if_t hb hm
      have h_word := mono e h_word
      have E0 := E0.trans e
      cases hm
      exact q_ret (K := K) hS ev_bl (fun v F H e hS hv => q v F H (E0.trans e) (hS.sub (List.Sublist.refl _)) hv)
    · have hm := if_f hb hm
      have h_word := mono e h_word
      have E0 := E0.trans e
      refine s_then ?_
      obtain ⟨t11, ht11, hm⟩ := Option.bind_eq_some_iff.mp hm
      obtain ⟨nt11, hnt11, hm⟩ := Option.bind_eq_some_iff.mp hm
      cases hm
      exact q_ret (K := K) hS (ev_all (EvN.fz rfl (evn_lcC (vs := [1]) (s0 := ()) (fun (s6 : Unit) => R) (fun v7 => [some v_word, some v7]) (ei_str (ev_var rfl h_word)) ht11 (fun _ _ _ => trivial) (lnOk_le hnt11) (fun v7 _ _ q => q) (fun _ => rfl) (fun s6 x5 r v7 Fc12 D8 ac9 hb e_c hx5 => by
        have h_word := mono e_c h_word
        refine ⟨true, evt_yes, fun hc => (by cases hc), fun hc => ?_⟩
        obtain ⟨t10, ht10, hb⟩ := Option.bind_eq_some_iff.mp hb
        cases hb
        exact ⟨_, rfl, (ev_inS (ev_var rfl hx5) ev_c1 ht10)⟩)
        )) lst_f) (fun v F H e hS hv => q v F H (E0.trans e) (hS.sub (List.Sublist.refl _)) hv)
abbrev q_split_words := fun x : (List Nat) × Unit => m_split_words x.1
abbrev sp_split_words (K : FR) : Sp := spNew K q_split_words
theorem ok_split_words (T : Mf K mg w) : FnOk P w K mg base CX0 1 T.f_split_words T.fd_split_words ["text"] (sp_split_words K) := by
  refine T.F_split_words.ok sc_split_words (fun vs H Q E h => ?_) (fun cdv A outer s H0 vs Q E hr h => ?_)
  · obtain ⟨_, _, _, _, hx, _⟩ := h
    obtain ⟨v_text, _, rfl, h_text, rfl⟩ := hx
    rfl
  · obtain ⟨F0, R, ⟨p_text, _⟩, r, hx, hS, hm, q⟩ := h
    obtain ⟨v_text, _, rfl, h_text, rfl⟩ := hx
    have h_text : rep K F0 v_text p_text := h_text
    have hm : m_split_words p_text = some r := hm
    unfold m_split_words at hm
    have E0 := Same.refl F0
    refine ⟨_, (pss_cons (ps_set (i := 1) sc_split_words.nd rfl (by first | exact Or.inl rfl | exact Or.inr rfl) (pe_lst pa_nil))
       (pss_cons (ps_set (i := 2) sc_split_words.nd rfl (by first | exact Or.inl rfl | exact Or.inr rfl) pe_int)
       (pss_cons (ps_while PassesOwn.never (pt_cmpR op_lt (pv 2) (pe_callB call_len_str (by rfl) T.z_len PySem.boot_len (pa_cons (pv 0) pa_nil)) (by rfl)) (pss_cons (ps_set (i := 3) sc_split_words.nd rfl (by first | exact Or.inl rfl | exact Or.inr rfl) (pe_op op_add (pv 2) pe_int))
       (Evl.pss_cut (ps_if (pt_cmpR op_in_sign (pe_ix ix_str (pv 0) (pv 2) (fun _ _ => rfl)) (pe_glob (v := .str "abcdefghijklmnopqrstuvwxyz0123456789") rfl T.g_WORD_SIGNS ⟨_, rfl⟩) (by rfl)) (pss_cons (ps_while PassesOwn.never (PW.pt (pw_and (pt_cmpR op_lt (pv 3) (pe_callB call_len_str (by rfl) T.z_len PySem.boot_len (pa_cons (pv 0) pa_nil)) (by rfl)) (pw_and1 (pt_cmpR op_in_sign (pe_ix ix_str (pv 0) (pv 3) (fun _ _ => rfl)) (pe_glob (v := .str "abcdefghijklmnopqrstuvwxyz0123456789") rfl T.g_WORD_SIGNS ⟨_, rfl⟩) (by rfl))))) (pss_cons (ps_aug (i := 3) sc_split_words.nd rfl (by first | exact Or.inl rfl | exact Or.inr rfl) pe_int ip_add)
       pss_nil))
       pss_nil) (pss_cons (ps_if (pt_cmpR op_eq (pe_slice sl_str (pv 0) (po_some (pv 2)) (po_some (pe_op op_add (pv 2) pe_int))) pe_str (by rfl)) (pss_cons (ps_set (i := 3) sc_split_words.nd rfl (by first | exact Or.inl rfl | exact Or.inr rfl) (pe_op op_add (pv 2) pe_int))
       pss_nil) pss_nil)
       pss_nil))
       (Evl.pss_cut (ps_if (PW.pt (pw_and (pt_cmpR op_ne (pe_ix ix_str (pv 0) (pv 2) (fun _ _ => rfl)) pe_str (by rfl)) (pw_and1 (pt_cmpR op_ne (pe_ix ix_str (pv 0) (pv 2) (fun _ _ => rfl)) pe_str (by rfl))))) (pss_cons (ps_expr (pe_bm PySem.F.plainAttrs_list PySem.F.slot_list_append PySem.F.type_list_append mt_append (pv 1) (pa_cons (pe_slice sl_str (pv 0) (po_some (pv 2)) (po_some (pv 3))) pa_nil)))
       pss_nil) pss_nil)
       (pss_cons (ps_set (i := 2) sc_split_words.nd rfl (by first | exact Or.inl rfl | exact Or.inr rfl) (pv 3))
       pss_nil)))))
       (pss_cons (ps_ret (pv 1))
       pss_nil)))), ?_⟩
    refine start_is (σ' := [some v_text, none, none, none]) rfl ?_
    refine q_asgN (K := K) (i := 1) (σ' := fun v => [some v_text, some v, none, none]) hS (evn_lst (xs := ([] : (List (List Nat)))) eas_nil (by decide)) (fun _ => rfl) (fun l3 F1 H2 e (hS : Hd K F1 ((l3, ownL ([] : (List (List Nat)))) :: R) H2) => ?_)
    have h_text := mono e h_text
    have E0 := E0.trans e
    refine q_asg (K := K) (i := 2) (σ' := fun v => [some v_text, some (.ref l3), some v, none]) hS ev_int (fun _ => rfl) (fun v6 F4 H5 e (hS : Hd K F4 ((l3, ownL ([] : (List (List Nat)))) :: R) H5) h7 => ?_)
    have h_text := mono e h_text
    have E0 := E0.trans e
    obtain ⟨s11, hs11, hm⟩ := Option.bind_eq_some_iff.mp hm
    refine q_whileS (K := K) (s0 := ((0 : Int), ([] : (List (List Nat))))) (fun (s8 : Int × (List (List Nat))) => (l3, ownL s8.2) :: R) (fun (s8 : Int × (List (List Nat))) F σ' => ∃ (v9 : V) (y10 : Option V), σ' = [some v_text, some (.ref l3), some v9, y10] ∧ rep K F v9 s8.1) hS hs11 ⟨v6, _, rfl, h7⟩ (fun s8 b F12 σ' hb eA hI => ?_) (fun s8 c18 F12 F13 σ' H14 hb hc eA hI eB hS D' hct hD => ?_) (fun s8 F F' σ' eI hI => ?_) ?_
    · obtain ⟨v9, y10, rfl, hv9⟩ := hI
      have h_text := mono eA h_text
      cases hb
      exact (evt_test (ev_lt (ev_var rfl hv9) (ev_lenS (ev_var rfl h_text))))
    · obtain ⟨v9, y10, rfl, hv9⟩ := hI
      have hm := hb
      have h_text := mono (eA.trans eB) h_text
      have hv9 := mono eB hv9
      have E0 := E0.trans (eA.trans eB)
      have Eb17 := Same.refl F13
      refine q_asg (K := K) (i := 3) (σ' := fun v => [some v_text, some (.ref l3), some v9, some v]) hS (ev_add (ev_var rfl hv9) ev_int) (fun _ => rfl) (fun v21 F19 H20 e (hS : Hd K F19 ((l3, ownL s8.2) :: R) H20) h22 => ?_)
      have h_text := mono e h_text
      have hv9 := mono e hv9
      have E0 := E0.trans e
      have Eb17 := Eb17.trans e
      obtain ⟨t23, ht23, hm⟩ := Option.bind_eq_some_iff.mp hm
      obtain ⟨t24, ht24, hm⟩ := Option.bind_eq_some_iff.mp hm
      obtain ⟨s25, hj27, hm⟩ := Option.bind_eq_some_iff.mp hm
      refine q_ifc (K := K) (b := (t24)) (fun σ' H' => (∃ (F : Hp) (v26 : V), Same F19 F ∧ Hd K F ((l3, ownL s8.2) :: R) H' ∧ σ' = [some v_text, some (.ref l3), some v9, some v26] ∧ rep K F v26 s25)) hS (evt_test (ev_inS (ev_ixS (ev_var rfl h_text) (ev_var rfl hv9) ht23) ev_c2 ht24)) (fun hb F28 H29 e (hS : Hd K F28 ((l3, ownL s8.2) :: R) H29) => ?_) (fun hb F28 H29 e (hS : Hd K F28 ((l3, ownL s8.2) :: R) H29) => ?_) (fun σ' H' hM => ?_)
      · have hm := if_t hb hj27
        have Ej30 := Same.refl F19
        have h_text := mono e h_text
        have hv9 := mono e hv9
        have h22 := mono e h22
        have E0 := E0.trans e
        have Eb17 := Eb17.trans e
        have Ej30 := Ej30.trans e
        obtain ⟨s33, hs33, hm⟩ := Option.bind_eq_some_iff.mp hm
        refine q_whileS (K := K) (s0 := (s8.1 + (1 : Int))) (fun (s31 : Int) => (l3, ownL s8.2) :: R) (fun (s31 : Int) F σ' => ∃ (v32 : V), σ' = [some v_text, some (.ref l3), some v9, some v32] ∧ rep K F v32 s31) hS hs33 ⟨v21, rfl, h22⟩ (fun s31 b F34 σ' hb eA hI => ?_) (fun s31 c40 F34 F35 σ' H36 hb hc eA hI eB hS D' hct hD => ?_) (fun s31 F F' σ' eI hI => ?_) ?_
        · obtain ⟨v32, rfl, hv32⟩ := hI
          have h_text := mono eA h_text
          have hv9 := mono eA hv9
          obtain ⟨t43, ht43, hb⟩ := Option.bind_eq_some_iff.mp hb
          cases hb
          exact (evt_andM ht43 (evt_test (ev_lt (ev_var rfl hv32) (ev_lenS (ev_var rfl h_text)))) (fun _ b hb => by
            obtain ⟨t41, ht41, hb⟩ := Option.bind_eq_some_iff.mp hb
            obtain ⟨t42, ht42, hb⟩ := Option.bind_eq_some_iff.mp hb
            cases hb
            exact (evt_test (ev_inS (ev_ixS (ev_var rfl h_text) (ev_var rfl hv32) ht41) ev_c2 ht42))))
        · obtain ⟨v32, rfl, hv32⟩ := hI
          have hm := hb
          have h_text := mono (eA.trans eB) h_text
          have hv9 := mono (eA.trans eB) hv9
          have hv32 := mono eB hv32
          have E0 := E0.trans (eA.trans eB)
          have Eb17 := Eb17.trans (eA.trans eB)
          have Ej30 := Ej30.trans (eA.trans eB)
          have Eb39 := Same.refl F35
          refine q_augV (K := K) (i := 3) hS rfl hv32 ev_int (σ' := [some v_text, some (.ref l3), some v9, some (V.int (s31 + (1 : Int)))]) rfl (fun F44 H45 e (hS : Hd K F44 ((l3, ownL s8.2) :: R) H45) => ?_)
          have h_text := mono e h_text
          have hv9 := mono e hv9
          have E0 := E0.trans e
          have Eb17 := Eb17.trans e
          have Ej30 := Ej30.trans e
          have Eb39 := Eb39.trans e
          cases hm
          refine s_end ?_
          exact hD _ _ _ Eb39 (hS) ⟨(V.int (s31 + (1 : Int))), rfl, (ri (i := (s31 + (1 : Int))))⟩
        · obtain ⟨v32, rfl, hv32⟩ := hI
          exact ⟨v32, rfl, mono eI hv32⟩
        · skip
          intro F47 σ' H48 e hS hI
          obtain ⟨v49, rfl, hv49⟩ := hI
          have h_text := mono e h_text
          have hv9 := mono e hv9
          have E0 := E0.trans e
          have Eb17 := Eb17.trans e
          have Ej30 := Ej30.trans e
          cases hm
          refine s_end ?_
          exact ⟨_, v49, Ej30, hS, rfl, hv49⟩
      · have hm := if_f hb hj27
        have Ej30 := Same.refl F19
        have h_text := mono e h_text
        have hv9 := mono e hv9
        have h22 := mono e h22
        have E0 := E0.trans e
        have Eb17 := Eb17.trans e
        have Ej30 := Ej30.trans e
        refine q_if (K := K) (b := (decide ((cut p_text (some s8.1) (some (s8.1 + (2 : Int)))) = c4))) hS (evt_test (ev_eqS (ev_slS (ev_var rfl h_text) (eo_some (ev_var rfl hv9)) (eo_some (ev_add (ev_var rfl hv9) ev_int))) ev_c4)) (fun hb F50 H51 e (hS : Hd K F50 ((l3, ownL s8.2) :: R) H51) => ?_) (fun hb F50 H51 e (hS : Hd K F50 ((l3, ownL s8.2) :: R) H51) => ?_)
        · have hm := if_t hb hm
          have h_text := mono e h_text
          have hv9 := mono e hv9
          have h22 := mono e h22
          have E0 := E0.trans e
          have Eb17 := Eb17.trans e
          have Ej30 := Ej30.trans e
          refine q_asg (K := K) (i := 3) (σ' := fun v => [some v_text, some (.ref l3), some v9, some v]) hS (ev_add (ev_var rfl hv9) ev_int) (fun _ => rfl) (fun v54 F52 H53 e (hS : Hd K F52 ((l3, ownL s8.2) :: R) H53) h55 => ?_)
          have h_text := mono e h_text
          have hv9 := mono e hv9
          have E0 := E0.trans e
          have Eb17 := Eb17.trans e
          have Ej30 := Ej30.trans e
          refine s_then ?_
          cases hm
          refine s_end ?_
          exact ⟨_, v54, Ej30, hS, rfl, h55⟩
        · have hm := if_f hb hm
          have h_text := mono e h_text
          have hv9 := mono e hv9
          have h22 := mono e h22
          have E0 := E0.trans e
          have Eb17 := Eb17.trans e
          have Ej30 := Ej30.trans e
          refine s_then ?_
          cases hm
          refine s_end ?_
          exact ⟨_, v21, Ej30, hS, rfl, h22⟩
      obtain ⟨F56, v26, e, hS, rfl, hv26⟩ := hM
      have h_text := mono e h_text
      have hv9 := mono e hv9
      have E0 := E0.trans e
      have Eb17 := Eb17.trans e
      obtain ⟨t58, ht58, hm⟩ := Option.bind_eq_some_iff.mp hm
      obtain ⟨t60, ht60, hm⟩ := Option.bind_eq_some_iff.mp hm
      obtain ⟨s61, hj62, hm⟩ := Option.bind_eq_some_iff.mp hm
      refine q_ifc (K := K) (b := t60) (fun σ' H' => (∃ (F : Hp) , Same F56 F ∧ Hd K F ((l3, ownL s61) :: R) H' ∧ σ' = [some v_text, some (.ref l3), some v9, some v26])) hS (evt_andM ht60 (evt_test (ev_neS (ev_ixS (ev_var rfl h_text) (ev_var rfl hv9) ht58) ev_c5)) (fun _ b hb => by
        obtain ⟨t59, ht59, hb⟩ := Option.bind_eq_some_iff.mp hb
        cases hb
        exact (evt_test (ev_neS (ev_ixS (ev_var rfl h_text) (ev_var rfl hv9) ht59) ev_c6)))) (fun hb F63 H64 e (hS : Hd K F63 ((l3, ownL s8.2) :: R) H64) => ?_) (fun hb F63 H64 e (hS : Hd K F63 ((l3, ownL s8.2) :: R) H64) => ?_) (fun σ' H' hM => ?_)
      · have hm := if_t hb hj62
        have Ej65 := Same.refl F56
        have h_text := mono e h_text
        have hv9 := mono e hv9
        have hv26 := mono e hv26
        have E0 := E0.trans e
        have Eb17 := Eb17.trans e
        have Ej65 := Ej65.trans e
        obtain ⟨t66, ht66, hm⟩ := Option.bind_eq_some_iff.mp hm
        refine q_app (K := K) 0 hS (ev_var rfl (rl (l := l3))) (List.Mem.head _) (ev_slS (ev_var rfl h_text) (eo_some (ev_var rfl hv9)) (eo_some (ev_var rfl hv26))) rfl ht66 (fun F67 H68 e (hS : Hd K F67 ((l3, ownL t66) :: R) H68) => ?_)
        have h_text := mono e h_text
        have hv9 := mono e hv9
        have hv26 := mono e hv26
        have E0 := E0.trans e
        have Eb17 := Eb17.trans e
        have Ej65 := Ej65.trans e
        cases hm
        refine s_end ?_
        exact ⟨_, Ej65, hS, rfl⟩
      · have hm := if_f hb hj62
        have Ej65 := Same.refl F56
        have h_text := mono e h_text
        have hv9 := mono e hv9
        have hv26 := mono e hv26
        have E0 := E0.trans e
        have Eb17 := Eb17.trans e
        have Ej65 := Ej65.trans e
        cases hm
        refine s_end ?_
        exact ⟨_, Ej65, hS, rfl⟩
      obtain ⟨F69, e, hS, rfl⟩ := hM
      have h_text := mono e h_text
      have hv9 := mono e hv9
      have hv26 := mono e hv26
      have E0 := E0.trans e
      have Eb17 := Eb17.trans e
      refine q_asg (K := K) (i := 2) (σ' := fun v => [some v_text, some (.ref l3), some v, some v26]) hS (ev_var rfl hv26) (fun _ => rfl) (fun v73 F71 H72 e (hS : Hd K F71 ((l3, ownL s61) :: R) H72) h74 => ?_)
      have h_text := mono e h_text
      have hv26 := mono e hv26
      have E0 := E0.trans e
      have Eb17 := Eb17.trans e
      cases hm
      refine s_end ?_
      exact hD _ _ _ Eb17 (hS) ⟨v73, _, rfl, h74⟩
    · obtain ⟨v9, y10, rfl, hv9⟩ := hI
      exact ⟨v9, y10, rfl, mono eI hv9⟩
    · skip
      intro F75 σ' H76 e hS hI
      obtain ⟨v77, y78, rfl, hv77⟩ := hI
      have E0 := E0.trans e
      cases hm
      refine q_ret (K := K) hS (ev_var rfl (rl (l := l3))) (fun v F H e hS hv => ?_)
      cases hv
      exact q _ F H (E0.trans e) (hd_ret 0 rfl (List.Sublist.refl _) hS)
abbrev q__law_draws := fun x : Scr × Int × Unit => m__law_draws x.1 x.2.1
abbrev sp__law_draws (K : FR) : Sp := spNew K q__law_draws
theorem ok__law_draws (T : Mf K mg w) : FnOk P w K mg base CX0 1 T.f__law_draws T.fd__law_draws ["script", "count"] (sp__law_draws K) := by
  refine T.F__law_draws.ok sc__law_draws (fun vs H Q E h => ?_) (fun cdv A outer s H0 vs Q E hr h => ?_)
  · obtain ⟨_, _, _, _, hx, _⟩ := h
    obtain ⟨v_script, _, rfl, h_script, v_count, _, rfl, h_count, rfl⟩ := hx
    rfl
  · obtain ⟨F0, R, ⟨p_script, p_count, _⟩, r, hx, hS, hm, q⟩ := h
    obtain ⟨v_script, _, rfl, h_script, v_count, _, rfl, h_count, rfl⟩ := hx
    have h_script : rep K F0 v_script p_script := h_script
    have h_count : rep K F0 v_count p_count := h_count
    have hm : m__law_draws p_script p_count = some r := hm
    unfold m__law_draws at hm
    have E0 := Same.refl F0
    refine ⟨_, (pss_cons (ps_set (i := 2) sc__law_draws.nd rfl (by first | exact Or.inl rfl | exact Or.inr rfl) (pe_lst pa_nil))
       (pss_cons (ps_set (i := 3) sc__law_draws.nd rfl (by first | exact Or.inl rfl | exact Or.inr rfl) pe_int)
       (pss_cons (ps_for PassesOwn.never rfl (pi_list (pv 0)) (pg_name (i := 4) sc__law_draws.nd rfl (by first | exact Or.inl rfl | exact Or.inr rfl)) (pss_cons (ps_set (i := 5) sc__law_draws.nd rfl (by first | exact Or.inl rfl | exact Or.inr rfl) (pe_callB call_abs (by rfl) T.z_abs (by decide +kernel) (pa_cons (pe_callTy call_int1 (by rfl) T.z_int (by decide +kernel) (pa_cons (pv 4) pa_nil)) pa_nil)))
       (pss_cons (ps_set (i := 3) sc__law_draws.nd rfl (by first | exact Or.inl rfl | exact Or.inr rfl) (pe_op op_mod (pe_op op_add (pe_op op_add (pe_op op_mul (pv 3) pe_int) (pe_op op_mod (pv 5) pe_int)) pe_int) pe_int))
       (pss_cons (ps_for PassesOwn.never rfl (pi_range1 (by rfl) T.z_range (pa_cons pe_int pa_nil)) (pg_name (i := 6) sc__law_draws.nd rfl (by first | exact Or.inl rfl | exact Or.inr rfl)) (pss_cons (ps_if (PW.pt (pw_or (PW.pt (pw_and (pt_cmpR op_lt (pv 5) (pe_op op_pow pe_int pe_int) (by rfl)) (pw_and1 (pt_cmpR op_eq (pv 6) pe_int (by rfl))))) (pw_or1 (pt_cmpR op_eq (pv 5) pe_int (by rfl))))) (pss_cons ps_break
       pss_nil) pss_nil)
       (pss_cons (ps_expr (pe_bm PySem.F.plainAttrs_list PySem.F.slot_list_append PySem.F.type_list_append mt_append (pv 2) (pa_cons (pe_op op_mod (pv 5) pe_int) pa_nil)))
       (pss_cons (ps_set (i := 5) sc__law_draws.nd rfl (by first | exact Or.inl rfl | exact Or.inr rfl) (pe_op op_fdiv (pv 5) pe_int))
       pss_nil))))
       pss_nil))))
       (pss_cons (ps_for PassesOwn.never rfl (pi_range1 (by rfl) T.z_range (pa_cons (pe_callB (call_max2 rfl) (by rfl) T.z_max (by decide +kernel) (pa_cons pe_int (pa_cons (pe_op op_sub (pv 1) (pe_callB call_len_seq (by rfl) T.z_len PySem.boot_len (pa_cons (pv 2) pa_nil))) pa_nil))) pa_nil)) (pg_name (i := 6) sc__law_draws.nd rfl (by first | exact Or.inl rfl | exact Or.inr rfl)) (pss_cons (ps_set (i := 3) sc__law_draws.nd rfl (by first | exact Or.inl rfl | exact Or.inr rfl) (pe_op op_mod (pe_op op_add (pe_op op_mul (pv 3) pe_int) pe_int) pe_int))
       (pss_cons (ps_expr (pe_bm PySem.F.plainAttrs_list PySem.F.slot_list_append PySem.F.type_list_append mt_append (pv 2) (pa_cons (pe_op op_mod (pe_op op_add (pe_op op_fdiv (pv 3) pe_int) (pe_op op_mul (pe_op op_mod (pv 3) pe_int) pe_int)) pe_int) pa_nil)))
       pss_nil)))
       (pss_cons (ps_ret (pv 2))
       pss_nil))))), ?_⟩
    refine start_is (σ' := [some v_script, some v_count, none, none, none, none, none]) rfl ?_
    refine q_asgN (K := K) (i := 2) (σ' := fun v => [some v_script, some v_count, some v, none, none, none, none]) hS (evn_lst (xs := ([] : (List Int))) eas_nil (by decide)) (fun _ => rfl) (fun l3 F1 H2 e (hS : Hd K F1 ((l3, ownL ([] : (List Int))) :: R) H2) => ?_)
    have h_script := mono e h_script
    have h_count := mono e h_count
    have E0 := E0.trans e
    refine q_asg (K := K) (i := 3) (σ' := fun v => [some v_script, some v_count, some (.ref l3), some v, none, none, none]) hS ev_int (fun _ => rfl) (fun v6 F4 H5 e (hS : Hd K F4 ((l3, ownL ([] : (List Int))) :: R) H5) h7 => ?_)
    have h_script := mono e h_script
    have h_count := mono e h_count
    have E0 := E0.trans e
    obtain ⟨s13, hs13, hm⟩ := Option.bind_eq_some_iff.mp hm
    refine q_forS (K := K) (s0 := ((41 : Int), ([] : (List Int)))) (fun (s8 : Int × (List Int)) => (l3, ownL s8.2) :: R) (fun (s8 : Int × (List Int)) F σ' => ∃ (v9 : V) (y10 : Option V) (y11 : Option V) (y12 : Option V), σ' = [some v_script, some v_count, some (.ref l3), some v9, y12, y10, y11] ∧ rep K F v9 s8.1) hS (ei_scr (ev_var rfl h_script)) hs13 (fun _ => trivial) (fun F eI => ⟨v6, _, _, _, rfl, mono eI h7⟩) (fun s8 x17 c20 v18 F14 F15 σ' H16 hb eA hI eB hS hx17 D' hct hD => ?_) ?_
    · obtain ⟨v9, y10, y11, y12, rfl, hv9⟩ := hI
      have hm := hb
      have h_count := mono (eA.trans eB) h_count
      have hv9 := mono eB hv9
      have E0 := E0.trans (eA.trans eB)
      have Eb19 := Same.refl F15
      refine for_name (σ' := [some v_script, some v_count, some (.ref l3), some v9, some v18, y10, y11]) rfl ?_
      refine q_asg (K := K) (i := 5) (σ' := fun v => [some v_script, some v_count, some (.ref l3), some v9, some v18, some v, y11]) hS (ev_abs (ev_intI (ev_var rfl hx17))) (fun _ => rfl) (fun v23 F21 H22 e (hS : Hd K F21 ((l3, ownL s8.2) :: R) H22) h24 => ?_)
      have h_count := mono e h_count
      have hv9 := mono e hv9
      have hx17 := mono e hx17
      have E0 := E0.trans e
      have Eb19 := Eb19.trans e
      obtain ⟨t25, ht25, hm⟩ := Option.bind_eq_some_iff.mp hm
      refine q_asg (K := K) (i := 3) (σ' := fun v => [some v_script, some v_count, some (.ref l3), some v, some v18, some v23, y11]) hS (ev_mod (ev_add (ev_add (ev_mul (ev_var rfl hv9) ev_int ht25) (ev_mod (ev_var rfl h24) ev_int (by decide))) ev_int) ev_int (by decide)) (fun _ => rfl) (fun v28 F26 H27 e (hS : Hd K F26 ((l3, ownL s8.2) :: R) H27) h29 => ?_)
      have h_count := mono e h_count
      have h24 := mono e h24
      have hx17 := mono e hx17
      have E0 := E0.trans e
      have Eb19 := Eb19.trans e
      obtain ⟨xs30, hxs30, hm⟩ := Option.bind_eq_some_iff.mp hm
      obtain ⟨c34, hc34, hm⟩ := Option.bind_eq_some_iff.mp hm
      refine q_for (K := K) (OR := []) (R := Empty) (s0 := ((if x17 < 0 then -x17 else x17), s8.2)) (fun (s31 : Int × (List Int)) => (l3, ownL s31.2) :: R) (fun (s31 : Int × (List Int)) F σ' => ∃ (v32 : V) (y33 : Option V), σ' = [some v_script, some v_count, some (.ref l3), some v28, some v18, some v32, y33] ∧ rep K F v32 s31.1) hS (ei_rng1 (ea_cons ev_int ea_nil) hxs30) hc34 (fun _ => trivial) (fun F eI => ⟨v23, _, rfl, mono eI h24⟩) (fun s31 x38 c41 v39 F35 F36 σ' H37 hb eA hI eB hS hx38 D' hct hD => ?_) ?_
      · obtain ⟨v32, y33, rfl, hv32⟩ := hI
        have hm := hb
        have h_count := mono (eA.trans eB) h_count
        have h29 := mono (eA.trans eB) h29
        have hx17 := mono (eA.trans eB) hx17
        have hv32 := mono eB hv32
        have E0 := E0.trans (eA.trans eB)
        have Eb19 := Eb19.trans (eA.trans eB)
        have Eb40 := Same.refl F36
        refine for_name (σ' := [some v_script, some v_count, some (.ref l3), some v28, some v18, some v32, some v39]) rfl ?_
        refine q_if (K := K) (b := (((decide (s31.1 < (1000000000000000000 : Int))) && (decide (x38 = (0 : Int)))) || (decide (s31.1 = (0 : Int))))) hS (evt_or (evt_and (evt_test (ev_lt (ev_var rfl hv32) (ev_is (ev_pow ev_int ev_int ⟨by decide, by decide, by decide⟩) (by decide)))) (fun _ => (evt_test (ev_eqI (ev_var rfl hx38) ev_int)))) (fun _ => (evt_test (ev_eqI (ev_var rfl hv32) ev_int)))) (fun hb F42 H43 e (hS : Hd K F42 ((l3, ownL s31.2) :: R) H43) => ?_) (fun hb F42 H43 e (hS : Hd K F42 ((l3, ownL s31.2) :: R) H43) => ?_)
        · have hm := if_t hb hm
          have h_count := mono e h_count
          have h29 := mono e h29
          have hv32 := mono e hv32
          have hx38 := mono e hx38
          have hx17 := mono e hx17
          have E0 := E0.trans e
          have Eb19 := Eb19.trans e
          have Eb40 := Eb40.trans e
          cases hm
          refine q_break ?_
          exact hD _ _ _ Eb40 (hS) ⟨v32, _, rfl, hv32⟩
        · have hm := if_f hb hm
          have h_count := mono e h_count
          have h29 := mono e h29
          have hv32 := mono e hv32
          have hx38 := mono e hx38
          have hx17 := mono e hx17
          have E0 := E0.trans e
          have Eb19 := Eb19.trans e
          have Eb40 := Eb40.trans e
          refine s_then ?_
          obtain ⟨t44, ht44, hm⟩ := Option.bind_eq_some_iff.mp hm
          refine q_app (K := K) 0 hS (ev_var rfl (rl (l := l3))) (List.Mem.head _) (ev_mod (ev_var rfl hv32) ev_int (by decide)) rfl ht44 (fun F45 H46 e (hS : Hd K F45 ((l3, ownL t44) :: R) H46) => ?_)
          have h_count := mono e h_count
          have h29 := mono e h29
          have hv32 := mono e hv32
          have hx38 := mono e hx38
          have hx17 := mono e hx17
          have E0 := E0.trans e
          have Eb19 := Eb19.trans e
          have Eb40 := Eb40.trans e
          refine q_asg (K := K) (i := 5) (σ' := fun v => [some v_script, some v_count, some (.ref l3), some v28, some v18, some v, some v39]) hS (ev_fdiv (ev_var rfl hv32) ev_int ⟨by decide, by decide⟩) (fun _ => rfl) (fun v49 F47 H48 e (hS : Hd K F47 ((l3, ownL t44) :: R) H48) h50 => ?_)
          have h_count := mono e h_count
          have h29 := mono e h29
          have hx38 := mono e hx38
          have hx17 := mono e hx17
          have E0 := E0.trans e
          have Eb19 := Eb19.trans e
          have Eb40 := Eb40.trans e
          cases hm
          refine s_end ?_
          exact hD _ _ _ Eb40 (hS) ⟨v49, _, rfl, h50⟩
      · cases c34 with
        | nx s51 =>
          intro F54 σ' H55 e hS hI
          obtain ⟨v56, y57, rfl, hv56⟩ := hI
          have h_count := mono e h_count
          have h29 := mono e h29
          have hx17 := mono e hx17
          have E0 := E0.trans e
          have Eb19 := Eb19.trans e
          cases hm
          refine s_end ?_
          exact hD _ _ _ Eb19 (hS) ⟨v28, _, _, _, rfl, h29⟩
        | bk s52 =>
          intro F58 σ' H59 e hS hI
          obtain ⟨v60, y61, rfl, hv60⟩ := hI
          have h_count := mono e h_count
          have h29 := mono e h29
          have hx17 := mono e hx17
          have E0 := E0.trans e
          have Eb19 := Eb19.trans e
          cases hm
          refine s_end ?_
          exact hD _ _ _ Eb19 (hS) ⟨v28, _, _, _, rfl, h29⟩
        | rt r53 =>
          exact nomatch r53
    · skip
      intro F62 σ' H63 e hS hI
      obtain ⟨v64, y65, y66, y67, rfl, hv64⟩ := hI
      have h_count := mono e h_count
      have E0 := E0.trans e
      obtain ⟨xs68, hxs68, hm⟩ := Option.bind_eq_some_iff.mp hm
      obtain ⟨s72, hs72, hm⟩ := Option.bind_eq_some_iff.mp hm
      refine q_forS (K := K) (s0 := (s13.1, s13.2)) (fun (s69 : Int × (List Int)) => (l3, ownL s69.2) :: R) (fun (s69 : Int × (List Int)) F σ' => ∃ (v70 : V) (y71 : Option V), σ' = [some v_script, some v_count, some (.ref l3), some v70, y67, y65, y71] ∧ rep K F v70 s69.1) hS (ei_rng1 (ea_cons (ev_max2 ev_int (ev_sub (ev_var rfl h_count) (evl_len (ev_var rfl (rl (l := l3))) (lst_o (List.Mem.head _))))) ea_nil) hxs68) hs72 (fun _ => trivial) (fun F eI => ⟨v64, _, rfl, mono eI hv64⟩) (fun s69 x76 c79 v77 F73 F74 σ' H75 hb eA hI eB hS hx76 D' hct hD => ?_) ?_
      · obtain ⟨v70, y71, rfl, hv70⟩ := hI
        have hm := hb
        have hv70 := mono eB hv70
        have E0 := E0.trans (eA.trans eB)
        have Eb78 := Same.refl F74
        refine for_name (σ' := [some v_script, some v_count, some (.ref l3), some v70, y67, y65, some v77]) rfl ?_
        obtain ⟨t80, ht80, hm⟩ := Option.bind_eq_some_iff.mp hm
        refine q_asg (K := K) (i := 3) (σ' := fun v => [some v_script, some v_count, some (.ref l3), some v, y67, y65, some v77]) hS (ev_mod (ev_add (ev_mul (ev_var rfl hv70) ev_int ht80) ev_int) ev_int (by decide)) (fun _ => rfl) (fun v83 F81 H82 e (hS : Hd K F81 ((l3, ownL s69.2) :: R) H82) h84 => ?_)
        have E0 := E0.trans e
        have Eb78 := Eb78.trans e
        obtain ⟨t85, ht85, hm⟩ := Option.bind_eq_some_iff.mp hm
        obtain ⟨t86, ht86, hm⟩ := Option.bind_eq_some_iff.mp hm
        refine q_app (K := K) 0 hS (ev_var rfl (rl (l := l3))) (List.Mem.head _) (ev_mod (ev_add (ev_fdiv (ev_var rfl h84) ev_int ⟨by decide, by decide⟩) (ev_mul (ev_mod (ev_var rfl h84) ev_int (by decide)) ev_int ht85)) ev_int (by decide)) rfl ht86 (fun F87 H88 e (hS : Hd K F87 ((l3, ownL t86) :: R) H88) => ?_)
        have h84 := mono e h84
        have E0 := E0.trans e
        have Eb78 := Eb78.trans e
        cases hm
        refine s_end ?_
        exact hD _ _ _ Eb78 (hS) ⟨v83, _, rfl, h84⟩
      · skip
        intro F89 σ' H90 e hS hI
        obtain ⟨v91, y92, rfl, hv91⟩ := hI
        have E0 := E0.trans e
        cases hm
        refine q_ret (K := K) hS (ev_var rfl (rl (l := l3))) (fun v F H e hS hv => ?_)
        cases hv
        exact q _ F H (E0.trans e) (hd_ret 0 rfl (List.Sublist.refl _) hS)
abbrev q__law_take := fun (x : (List Int) × Lc × Int × Unit) (s : (List Int)) => m__law_take x.1 s x.2.2.1
abbrev sp__law_take (K : FR) : Sp := spIO K (fun x : (List Int) × Lc × Int × Unit => x.2.1.l) (fun s : (List Int) => ownL s) q__law_take
theorem ok__law_take (T : Mf K mg w) : FnOk P w K mg base CX0 1 T.f__law_take T.fd__law_take ["draws", "at", "many"] (sp__law_take K) := by
  refine T.F__law_take.ok sc__law_take (fun vs H Q E h => ?_) (fun cdv A outer s H0 vs Q E hr h => ?_)
  · obtain ⟨_, _, _, _, _, hx, _⟩ := h
    obtain ⟨v_draws, _, rfl, h_draws, v_at, _, rfl, h_at, v_many, _, rfl, h_many, rfl⟩ := hx
    rfl
  · obtain ⟨F0, R, ⟨p_draws, ⟨l_at⟩, p_many, _⟩, p_at, r, hx, hS, hm, q⟩ := h
    obtain ⟨v_draws, _, rfl, h_draws, v_at, _, rfl, h_at, v_many, _, rfl, h_many, rfl⟩ := hx
    obtain rfl : v_at = .ref l_at := h_at
    have h_draws : rep K F0 v_draws p_draws := h_draws
    have h_many : rep K F0 v_many p_many := h_many
    have hm : m__law_take p_draws p_at p_many = some r := hm
    unfold m__law_take at hm
    have E0 := Same.refl F0
    refine ⟨_, (pss_cons (ps_asg (pe_op op_add (pe_ix ix_list (pv 1) pe_int (fun _ _ => rfl)) pe_int) (pg_sub (pv 1) pe_int set_list))
       (pss_cons (ps_ret (pe_op op_mod (pe_ix ix_list (pv 0) (pe_op op_mod (pe_op op_sub (pe_ix ix_list (pv 1) pe_int (fun _ _ => rfl)) pe_int) (pe_callB call_len_seq (by rfl) T.z_len PySem.boot_len (pa_cons (pv 0) pa_nil))) (fun _ _ => rfl)) (pv 2)))
       pss_nil)), ?_⟩
    refine start_is (σ' := [some v_draws, some (.ref l_at), some v_many]) rfl ?_
    obtain ⟨t1, ht1, hm⟩ := Option.bind_eq_some_iff.mp hm
    obtain ⟨t2, ht2, hm⟩ := Option.bind_eq_some_iff.mp hm
    refine q_set (K := K) 0 hS (ev_add (evl_ix (ev_var rfl (rl (l := l_at))) ev_int (lst_o (List.Mem.head _)) ht1) ev_int) (ev_var rfl (rl (l := l_at))) ev_int rfl ht2 (fun F3 H4 e (hS : Hd K F3 ((l_at, ownL t2) :: R) H4) => ?_)
    have h_draws := mono e h_draws
    have h_many := mono e h_many
    have E0 := E0.trans e
    obtain ⟨t5, ht5, hm⟩ := Option.bind_eq_some_iff.mp hm
    obtain ⟨t6, ht6, hm⟩ := Option.bind_eq_some_iff.mp hm
    obtain ⟨t7, ht7, hm⟩ := Option.bind_eq_some_iff.mp hm
    obtain ⟨t8, ht8, hm⟩ := Option.bind_eq_some_iff.mp hm
    cases hm
    exact q_ret (K := K) hS (ev_modP (evl_ix (ev_var rfl h_draws) (ev_modP (ev_sub (evl_ix (ev_var rfl (rl (l := l_at))) ev_int (lst_o (List.Mem.head _)) ht5) ev_int) (evl_len (ev_var rfl h_draws) lst_f) ht6) lst_f ht7) (ev_var rfl h_many) ht8) (fun v F H e hS hv => q v F H (E0.trans e) (hd_ret 0 rfl (List.Sublist.refl _) hS) hv)
abbrev q__law_signs := fun x : Unit => m__law_signs 
abbrev sp__law_signs (K : FR) : Sp := spPure K q__law_signs
theorem ok__law_signs (T : Mf K mg w) : FnOk P w K mg base CX0 1 T.f__law_signs T.fd__law_signs [] (sp__law_signs K) := by
  refine T.F__law_signs.ok sc__law_signs (fun vs H Q E h => ?_) (fun cdv A outer s H0 vs Q E hr h => ?_)
  · obtain ⟨_, _, _, _, hx, _⟩ := h
    obtain rfl := hx
    rfl
  · obtain ⟨F0, R, _, r, hx, hS, hm, q⟩ := h
    obtain rfl := hx
    have hm : m__law_signs  = some r := hm
    unfold m__law_signs at hm
    have E0 := Same.refl F0
    refine ⟨_, (pss_cons (ps_set (i := 0) sc__law_signs.nd rfl (by first | exact Or.inl rfl | exact Or.inr rfl) pe_str)
       (pss_cons (ps_ret (pe_op op_add_str (pv 0) pe_str))
       pss_nil)), ?_⟩
    refine start_is (σ' := [none]) rfl ?_
    refine q_asg (K := K) (i := 0) (σ' := fun v => [some v]) hS ev_c7 (fun _ => rfl) (fun v3 F1 H2 e (hS : Hd K F1 (R) H2) h4 => ?_)
    have E0 := E0.trans e
    obtain ⟨t5, ht5, hm⟩ := Option.bind_eq_some_iff.mp hm
    cases hm
    exact q_ret (K := K) hS (ev_catS (ev_var rfl h4) ev_c8 ht5) (fun v F H e hS hv => q v F H (E0.trans e) (hS.sub (List.Sublist.refl _)) hv)
abbrev q__law_keywords := fun x : Unit => m__law_keywords 
abbrev sp__law_keywords (K : FR) : Sp := spNew K q__law_keywords
theorem ok__law_keywords (T : Mf K mg w) : FnOk P w K mg base CX0 1 T.f__law_keywords T.fd__law_keywords [] (sp__law_keywords K) := by
  refine T.F__law_keywords.ok sc__law_keywords (fun vs H Q E h => ?_) (fun cdv A outer s H0 vs Q E hr h => ?_)
  · obtain ⟨_, _, _, _, hx, _⟩ := h
    obtain rfl := hx
    rfl
  · obtain ⟨F0, R, _, r, hx, hS, hm, q⟩ := h
    obtain rfl := hx
    have hm : m__law_keywords  = some r := hm
    unfold m__law_keywords at hm
    have E0 := Same.refl F0
    refine ⟨_, (pss_cons (ps_set (i := 0) sc__law_keywords.nd rfl (by first | exact Or.inl rfl | exact Or.inr rfl) (pe_lst (pa_cons pe_str (pa_cons pe_str (pa_cons pe_str (pa_cons pe_str (pa_cons pe_str (pa_cons pe_str (pa_cons pe_str (pa_cons pe_str (pa_cons pe_str (pa_cons pe_str (pa_cons pe_str (pa_cons pe_str (pa_cons pe_str pa_nil)))))))))))))))
       (pss_cons (ps_ret (pe_op op_cat (pv 0) (pe_lst (pa_cons pe_str (pa_cons pe_str pa_nil)))))
       pss_nil)), ?_⟩
    refine start_is (σ' := [none]) rfl ?_
    refine q_asg (K := K) (i := 0) (σ' := fun v => [some v]) hS (EvN.fz rfl (evn_lst (xs := ([c9, c10, c11, c12, c13, c14, c15, c16, c17, c18, c19, c20, c21] : (List (List Nat)))) (eas_cons ev_c9 (eas_cons ev_c10 (eas_cons ev_c11 (eas_cons ev_c12 (eas_cons ev_c13 (eas_cons ev_c14 (eas_cons ev_c15 (eas_cons ev_c16 (eas_cons ev_c17 (eas_cons ev_c18 (eas_cons ev_c19 (eas_cons ev_c20 (eas_cons ev_c21 eas_nil))))))))))))) (Nat.le_of_ble_eq_true rfl))) (fun _ => rfl) (fun v3 F1 H2 e (hS : Hd K F1 (R) H2) h4 => ?_)
    have E0 := E0.trans e
    obtain ⟨t5, ht5, hm⟩ := Option.bind_eq_some_iff.mp hm
    cases hm
    refine q_retN (K := K) hS (evn_cat (ev_var rfl h4) (EvN.fz rfl (evn_lst (xs := ([c22, c23] : (List (List Nat)))) (eas_cons ev_c22 (eas_cons ev_c23 eas_nil)) (Nat.le_of_ble_eq_true rfl))) lst_f lst_f ht5) (fun l F H e hS => q l F H (E0.trans e) (hd_ret 0 rfl (List.Sublist.refl _) hS))
abbrev q__law_symbols := fun x : Unit => m__law_symbols 
abbrev sp__law_symbols (K : FR) : Sp := spNew K q__law_symbols
theorem ok__law_symbols (T : Mf K mg w) : FnOk P w K mg base CX0 1 T.f__law_symbols T.fd__law_symbols [] (sp__law_symbols K) := by
  refine T.F__law_symbols.ok sc__law_symbols (fun vs H Q E h => ?_) (fun cdv A outer s H0 vs Q E hr h => ?_)
  · obtain ⟨_, _, _, _, hx, _⟩ := h
    obtain rfl := hx
    rfl
  · obtain ⟨F0, R, _, r, hx, hS, hm, q⟩ := h
    obtain rfl := hx
    have hm : m__law_symbols  = some r := hm
    unfold m__law_symbols at hm
    have E0 := Same.refl F0
    refine ⟨_, (pss_cons (ps_ret (pe_lst (pa_cons pe_str (pa_cons pe_str (pa_cons pe_str (pa_cons pe_str (pa_cons pe_str (pa_cons pe_str (pa_cons pe_str (pa_cons pe_str (pa_cons pe_str (pa_cons pe_str (pa_cons pe_str (pa_cons pe_str (pa_cons pe_str (pa_cons pe_str (pa_cons pe_str (pa_cons pe_str (pa_cons pe_str (pa_cons pe_str pa_nil))))))))))))))))))))
       pss_nil), ?_⟩
    refine start_is (σ' := []) rfl ?_
    cases hm
    refine q_retN (K := K) hS (evn_lst (xs := ([c24, c25, c26, c27, c28, c29, c30, c31, c32, c33, c34, c35, c4, c36, c37, c38, c39, c40] : (List (List Nat)))) (eas_cons ev_c24 (eas_cons ev_c25 (eas_cons ev_c26 (eas_cons ev_c27 (eas_cons ev_c28 (eas_cons ev_c29 (eas_cons ev_c30 (eas_cons ev_c31 (eas_cons ev_c32 (eas_cons ev_c33 (eas_cons ev_c34 (eas_cons ev_c35 (eas_cons ev_c4 (eas_cons ev_c36 (eas_cons ev_c37 (eas_cons ev_c38 (eas_cons ev_c39 (eas_cons ev_c40 eas_nil)))))))))))))))))) (Nat.le_of_ble_eq_true rfl)) (fun l F H e hS => q l F H (E0.trans e) (hd_ret 0 rfl (List.Sublist.refl _) hS))
abbrev q__law_words := fun x : (List Nat) × Unit => m__law_words x.1
abbrev sp__law_words (K : FR) : Sp := spNew K q__law_words
theorem ok__law_words (T : Mf K mg w) : FnOk P w K mg base CX0 1 T.f__law_words T.fd__law_words ["text"] (sp__law_words K) := by
  refine T.F__law_words.ok sc__law_words (fun vs H Q E h => ?_) (fun cdv A outer s H0 vs Q E hr h => ?_)
  · obtain ⟨_, _, _, _, hx, _⟩ := h
    obtain ⟨v_text, _, rfl, h_text, rfl⟩ := hx
    rfl
  · obtain ⟨F0, R, ⟨p_text, _⟩, r, hx, hS, hm, q⟩ := h
    obtain ⟨v_text, _, rfl, h_text, rfl⟩ := hx
    have h_text : rep K F0 v_text p_text := h_text
    have hm : m__law_words p_text = some r := hm
    unfold m__law_words at hm
    have E0 := Same.refl F0
    refine ⟨_, (pss_cons (ps_set (i := 1) sc__law_words.nd rfl (by first | exact Or.inl rfl | exact Or.inr rfl) pe_str)
       (pss_cons (ps_set (i := 2) sc__law_words.nd rfl (by first | exact Or.inl rfl | exact Or.inr rfl) (pe_lst pa_nil))
       (pss_cons (ps_set (i := 3) sc__law_words.nd rfl (by first | exact Or.inl rfl | exact Or.inr rfl) pe_str)
       (pss_cons (ps_set (i := 4) sc__law_words.nd rfl (by first | exact Or.inl rfl | exact Or.inr rfl) pe_bl)
       (pss_cons (ps_for PassesOwn.never rfl (pi_range1 (by rfl) T.z_range (pa_cons (pe_callB call_len_str (by rfl) T.z_len PySem.boot_len (pa_cons (pv 0) pa_nil)) pa_nil)) (pg_name (i := 5) sc__law_words.nd rfl (by first | exact Or.inl rfl | exact Or.inr rfl)) (pss_cons (ps_if (pt_cmpR op_in_sign (pe_ix ix_str (pv 0) (pv 5) (fun _ _ => rfl)) (pv 1) (by rfl)) (pss_cons (ps_set (i := 3) sc__law_words.nd rfl (by first | exact Or.inl rfl | exact Or.inr rfl) (pe_op op_add_str (pv 3) (pe_ix ix_str (pv 0) (pv 5) (fun _ _ => rfl))))
       pss_nil) (Evl.pss_cut (ps_if (pt_cmpR op_ne (pv 3) pe_str (by rfl)) (pss_cons (ps_expr (pe_bm PySem.F.plainAttrs_list PySem.F.slot_list_append PySem.F.type_list_append mt_append (pv 2) (pa_cons (pv 3) pa_nil)))
       pss_nil) pss_nil)
       (pss_cons (ps_set (i := 3) sc__law_words.nd rfl (by first | exact Or.inl rfl | exact Or.inr rfl) pe_str)
       (pss_cons (ps_if (pt_val (pv 4)) (pss_cons (ps_set (i := 4) sc__law_words.nd rfl (by first | exact Or.inl rfl | exact Or.inr rfl) pe_bl)
       pss_nil) (pss_cons (ps_if (PW.pt (pw_and (pt_cmpR op_eq (pe_ix ix_str (pv 0) (pv 5) (fun _ _ => rfl)) pe_str (by rfl)) (pw_and (pt_cmpR op_lt (pe_op op_add (pv 5) pe_int) (pe_callB call_len_str (by rfl) T.z_len PySem.boot_len (pa_cons (pv 0) pa_nil)) (by rfl)) (pw_and1 (pt_cmpR op_eq (pe_ix ix_str (pv 0) (pe_op op_add (pv 5) pe_int) (fun _ _ => rfl)) pe_str (by rfl)))))) (pss_cons (ps_expr (pe_bm PySem.F.plainAttrs_list PySem.F.slot_list_append PySem.F.type_list_append mt_append (pv 2) (pa_cons pe_str pa_nil)))
       (pss_cons (ps_set (i := 4) sc__law_words.nd rfl (by first | exact Or.inl rfl | exact Or.inr rfl) pe_bl)
       pss_nil)) (pss_cons (ps_if (pt_cmpR op_notIn_sign (pe_ix ix_str (pv 0) (pv 5) (fun _ _ => rfl)) pe_str (by rfl)) (pss_cons (ps_expr (pe_bm PySem.F.plainAttrs_list PySem.F.slot_list_append PySem.F.type_list_append mt_append (pv 2) (pa_cons (pe_ix ix_str (pv 0) (pv 5) (fun _ _ => rfl)) pa_nil)))
       pss_nil) pss_nil)
       pss_nil))
       pss_nil))
       pss_nil))))
       pss_nil))
       (pss_cons (ps_ret (pe_op op_cat (pv 2) (pe_lc (own := [("one", 6)]) (g := gName 6) rfl sc__law_words.nd (pi_list (pe_lst (pa_cons (pv 3) pa_nil))) (blkOk_by (N := N__law_words) (sc := defScope s__law_words) (by decide +kernel)) (fun _ _ _ _ _ => pg_name (i := 6) sc__law_words.nd rfl (by first | exact Or.inl rfl | exact Or.inr rfl)) (fun _ _ _ _ _ => pts_one (pt_cmpR op_ne (pv 6) pe_str (by rfl))) (fun _ _ _ _ _ => (pv 6)))))
       pss_nil)))))), ?_⟩
    refine start_is (σ' := [some v_text, none, none, none, none, none, none]) rfl ?_
    refine q_asg (K := K) (i := 1) (σ' := fun v => [some v_text, some v, none, none, none, none, none]) hS ev_c2 (fun _ => rfl) (fun v3 F1 H2 e (hS : Hd K F1 (R) H2) h4 => ?_)
    have h_text := mono e h_text
    have E0 := E0.trans e
    refine q_asgN (K := K) (i := 2) (σ' := fun v => [some v_text, some v3, some v, none, none, none, none]) hS (evn_lst (xs := ([] : (List (List Nat)))) eas_nil (by decide)) (fun _ => rfl) (fun l7 F5 H6 e (hS : Hd K F5 ((l7, ownL ([] : (List (List Nat)))) :: R) H6) => ?_)
    have h_text := mono e h_text
    have h4 := mono e h4
    have E0 := E0.trans e
    refine q_asg (K := K) (i := 3) (σ' := fun v => [some v_text, some v3, some (.ref l7), some v, none, none, none]) hS ev_c41 (fun _ => rfl) (fun v10 F8 H9 e (hS : Hd K F8 ((l7, ownL ([] : (List (List Nat)))) :: R) H9) h11 => ?_)
    have h_text := mono e h_text
    have h4 := mono e h4
    have E0 := E0.trans e
    refine q_asg (K := K) (i := 4) (σ' := fun v => [some v_text, some v3, some (.ref l7), some v10, some v, none, none]) hS ev_bl (fun _ => rfl) (fun v14 F12 H13 e (hS : Hd K F12 ((l7, ownL ([] : (List (List Nat)))) :: R) H13) h15 => ?_)
    have h_text := mono e h_text
    have h4 := mono e h4
    have h11 := mono e h11
    have E0 := E0.trans e
    obtain ⟨xs16, hxs16, hm⟩ := Option.bind_eq_some_iff.mp hm
    obtain ⟨s21, hs21, hm⟩ := Option.bind_eq_some_iff.mp hm
    refine q_forS (K := K) (s0 := (c41, false, ([] : (List (List Nat))))) (fun (s17 : (List Nat) × Bool × (List (List Nat))) => (l7, ownL s17.2.2) :: R) (fun (s17 : (List Nat) × Bool × (List (List Nat))) F σ' => ∃ (v18 : V) (v19 : V) (y20 : Option V), σ' = [some v_text, some v3, some (.ref l7), some v18, some v19, y20, none] ∧ rep K F v18 s17.1 ∧ rep K F v19 s17.2.1) hS (ei_rng1 (ea_cons (ev_lenS (ev_var rfl h_text)) ea_nil) hxs16) hs21 (fun _ => trivial) (fun F eI => ⟨v10, v14, _, rfl, mono eI h11, mono eI h15⟩) (fun s17 x25 c28 v26 F22 F23 σ' H24 hb eA hI eB hS hx25 D' hct hD => ?_) ?_
    · obtain ⟨v18, v19, y20, rfl, hv18, hv19⟩ := hI
      have hm := hb
      have h_text := mono (eA.trans eB) h_text
      have h4 := mono (eA.trans eB) h4
      have hv18 := mono eB hv18
      have hv19 := mono eB hv19
      have E0 := E0.trans (eA.trans eB)
      have Eb27 := Same.refl F23
      refine for_name (σ' := [some v_text, some v3, some (.ref l7), some v18, some v19, some v26, none]) rfl ?_
      obtain ⟨t29, ht29, hm⟩ := Option.bind_eq_some_iff.mp hm
      obtain ⟨t30, ht30, hm⟩ := Option.bind_eq_some_iff.mp hm
      refine q_if (K := K) (b := (t30)) hS (evt_test (ev_inS (ev_ixS (ev_var rfl h_text) (ev_var rfl hx25) ht29) (ev_var rfl h4) ht30)) (fun hb F31 H32 e (hS : Hd K F31 ((l7, ownL s17.2.2) :: R) H32) => ?_) (fun hb F31 H32 e (hS : Hd K F31 ((l7, ownL s17.2.2) :: R) H32) => ?_)
      · have hm := if_t hb hm
        have h_text := mono e h_text
        have h4 := mono e h4
        have hv18 := mono e hv18
        have hv19 := mono e hv19
        have hx25 := mono e hx25
        have E0 := E0.trans e
        have Eb27 := Eb27.trans e
        obtain ⟨t33, ht33, hm⟩ := Option.bind_eq_some_iff.mp hm
        obtain ⟨t34, ht34, hm⟩ := Option.bind_eq_some_iff.mp hm
        refine q_asg (K := K) (i := 3) (σ' := fun v => [some v_text, some v3, some (.ref l7), some v, some v19, some v26, none]) hS (ev_catS (ev_var rfl hv18) (ev_ixS (ev_var rfl h_text) (ev_var rfl hx25) ht33) ht34) (fun _ => rfl) (fun v37 F35 H36 e (hS : Hd K F35 ((l7, ownL s17.2.2) :: R) H36) h38 => ?_)
        have h_text := mono e h_text
        have h4 := mono e h4
        have hv19 := mono e hv19
        have hx25 := mono e hx25
        have E0 := E0.trans e
        have Eb27 := Eb27.trans e
        refine s_then ?_
        cases hm
        refine s_end ?_
        exact hD _ _ _ Eb27 (hS) ⟨v37, v19, _, rfl, h38, hv19⟩
      · have hm := if_f hb hm
        have h_text := mono e h_text
        have h4 := mono e h4
        have hv18 := mono e hv18
        have hv19 := mono e hv19
        have hx25 := mono e hx25
        have E0 := E0.trans e
        have Eb27 := Eb27.trans e
        obtain ⟨s39, hj40, hm⟩ := Option.bind_eq_some_iff.mp hm
        refine q_ifc (K := K) (b := (!decide (s17.1 = c41))) (fun σ' H' => (∃ (F : Hp) , Same F31 F ∧ Hd K F ((l7, ownL s39) :: R) H' ∧ σ' = [some v_text, some v3, some (.ref l7), some v18, some v19, some v26, none])) hS (evt_test (ev_neS (ev_var rfl hv18) ev_c41)) (fun hb F41 H42 e (hS : Hd K F41 ((l7, ownL s17.2.2) :: R) H42) => ?_) (fun hb F41 H42 e (hS : Hd K F41 ((l7, ownL s17.2.2) :: R) H42) => ?_) (fun σ' H' hM => ?_)
        · have hm := if_t hb hj40
          have Ej43 := Same.refl F31
          have h_text := mono e h_text
          have h4 := mono e h4
          have hv18 := mono e hv18
          have hv19 := mono e hv19
          have hx25 := mono e hx25
          have E0 := E0.trans e
          have Eb27 := Eb27.trans e
          have Ej43 := Ej43.trans e
          obtain ⟨t44, ht44, hm⟩ := Option.bind_eq_some_iff.mp hm
          refine q_app (K := K) 0 hS (ev_var rfl (rl (l := l7))) (List.Mem.head _) (ev_var rfl hv18) rfl ht44 (fun F45 H46 e (hS : Hd K F45 ((l7, ownL t44) :: R) H46) => ?_)
          have h_text := mono e h_text
          have h4 := mono e h4
          have hv18 := mono e hv18
          have hv19 := mono e hv19
          have hx25 := mono e hx25
          have E0 := E0.trans e
          have Eb27 := Eb27.trans e
          have Ej43 := Ej43.trans e
          cases hm
          refine s_end ?_
          exact ⟨_, Ej43, hS, rfl⟩
        · have hm := if_f hb hj40
          have Ej43 := Same.refl F31
          have h_text := mono e h_text
          have h4 := mono e h4
          have hv18 := mono e hv18
          have hv19 := mono e hv19
          have hx25 := mono e hx25
          have E0 := E0.trans e
          have Eb27 := Eb27.trans e
          have Ej43 := Ej43.trans e
          cases hm
          refine s_end ?_
          exact ⟨_, Ej43, hS, rfl⟩
        obtain ⟨F47, e, hS, rfl⟩ := hM
        have h_text := mono e h_text
        have h4 := mono e h4
        have hv18 := mono e hv18
        have hv19 := mono e hv19
        have hx25 := mono e hx25
        have E0 := E0.trans e
        have Eb27 := Eb27.trans e
        refine q_asg (K := K) (i := 3) (σ' := fun v => [some v_text, some v3, some (.ref l7), some v, some v19, some v26, none]) hS ev_c41 (fun _ => rfl) (fun v51 F49 H50 e (hS : Hd K F49 ((l7, ownL s39) :: R) H50) h52 => ?_)
        have h_text := mono e h_text
        have h4 := mono e h4
        have hv19 := mono e hv19
        have hx25 := mono e hx25
        have E0 := E0.trans e
        have Eb27 := Eb27.trans e
        refine q_if (K := K) (b := s17.2.1) hS (evt_B (ev_var rfl hv19)) (fun hb F53 H54 e (hS : Hd K F53 ((l7, ownL s39) :: R) H54) => ?_) (fun hb F53 H54 e (hS : Hd K F53 ((l7, ownL s39) :: R) H54) => ?_)
        · have hm := if_t hb hm
          have h_text := mono e h_text
          have h4 := mono e h4
          have h52 := mono e h52
          have hv19 := mono e hv19
          have hx25 := mono e hx25
          have E0 := E0.trans e
          have Eb27 := Eb27.trans e
          refine q_asg (K := K) (i := 4) (σ' := fun v => [some v_text, some v3, some (.ref l7), some v51, some v, some v26, none]) hS ev_bl (fun _ => rfl) (fun v57 F55 H56 e (hS : Hd K F55 ((l7, ownL s39) :: R) H56) h58 => ?_)
          have h_text := mono e h_text
          have h4 := mono e h4
          have h52 := mono e h52
          have hx25 := mono e hx25
          have E0 := E0.trans e
          have Eb27 := Eb27.trans e
          refine s_then ?_
          refine s_then ?_
          cases hm
          refine s_end ?_
          exact hD _ _ _ Eb27 (hS) ⟨v51, v57, _, rfl, h52, h58⟩
        · have hm := if_f hb hm
          have h_text := mono e h_text
          have h4 := mono e h4
          have h52 := mono e h52
          have hv19 := mono e hv19
          have hx25 := mono e hx25
          have E0 := E0.trans e
          have Eb27 := Eb27.trans e
          obtain ⟨t59, ht59, hm⟩ := Option.bind_eq_some_iff.mp hm
          obtain ⟨t62, ht62, hm⟩ := Option.bind_eq_some_iff.mp hm
          refine q_if (K := K) (b := t62) hS (evt_andM ht62 (evt_test (ev_eqS (ev_ixS (ev_var rfl h_text) (ev_var rfl hx25) ht59) ev_c35)) (fun _ b hb => by
            obtain ⟨t61, ht61, hb⟩ := Option.bind_eq_some_iff.mp hb
            cases hb
            exact (evt_andM ht61 (evt_test (ev_lt (ev_add (ev_var rfl hx25) ev_int) (ev_lenS (ev_var rfl h_text)))) (fun _ b hb => by
            obtain ⟨t60, ht60, hb⟩ := Option.bind_eq_some_iff.mp hb
            cases hb
            exact (evt_test (ev_eqS (ev_ixS (ev_var rfl h_text) (ev_add (ev_var rfl hx25) ev_int) ht60) ev_c35)))))) (fun hb F63 H64 e (hS : Hd K F63 ((l7, ownL s39) :: R) H64) => ?_) (fun hb F63 H64 e (hS : Hd K F63 ((l7, ownL s39) :: R) H64) => ?_)
          · have hm := if_t hb hm
            have h_text := mono e h_text
            have h4 := mono e h4
            have h52 := mono e h52
            have hv19 := mono e hv19
            have hx25 := mono e hx25
            have E0 := E0.trans e
            have Eb27 := Eb27.trans e
            obtain ⟨t65, ht65, hm⟩ := Option.bind_eq_some_iff.mp hm
            refine q_app (K := K) 0 hS (ev_var rfl (rl (l := l7))) (List.Mem.head _) ev_c4 rfl ht65 (fun F66 H67 e (hS : Hd K F66 ((l7, ownL t65) :: R) H67) => ?_)
            have h_text := mono e h_text
            have h4 := mono e h4
            have h52 := mono e h52
            have hv19 := mono e hv19
            have hx25 := mono e hx25
            have E0 := E0.trans e
            have Eb27 := Eb27.trans e
            refine q_asg (K := K) (i := 4) (σ' := fun v => [some v_text, some v3, some (.ref l7), some v51, some v, some v26, none]) hS ev_bl (fun _ => rfl) (fun v70 F68 H69 e (hS : Hd K F68 ((l7, ownL t65) :: R) H69) h71 => ?_)
            have h_text := mono e h_text
            have h4 := mono e h4
            have h52 := mono e h52
            have hx25 := mono e hx25
            have E0 := E0.trans e
            have Eb27 := Eb27.trans e
            refine s_then ?_
            refine s_then ?_
            refine s_then ?_
            cases hm
            refine s_end ?_
            exact hD _ _ _ Eb27 (hS) ⟨v51, v70, _, rfl, h52, h71⟩
          · have hm := if_f hb hm
            have h_text := mono e h_text
            have h4 := mono e h4
            have h52 := mono e h52
            have hv19 := mono e hv19
            have hx25 := mono e hx25
            have E0 := E0.trans e
            have Eb27 := Eb27.trans e
            obtain ⟨t72, ht72, hm⟩ := Option.bind_eq_some_iff.mp hm
            obtain ⟨t73, ht73, hm⟩ := Option.bind_eq_some_iff.mp hm
            refine q_if (K := K) (b := (!t73)) hS (evt_test (ev_niS (ev_ixS (ev_var rfl h_text) (ev_var rfl hx25) ht72) ev_c42 ht73)) (fun hb F74 H75 e (hS : Hd K F74 ((l7, ownL s39) :: R) H75) => ?_) (fun hb F74 H75 e (hS : Hd K F74 ((l7, ownL s39) :: R) H75) => ?_)
            · have hm := if_t hb hm
              have h_text := mono e h_text
              have h4 := mono e h4
              have h52 := mono e h52
              have hv19 := mono e hv19
              have hx25 := mono e hx25
              have E0 := E0.trans e
              have Eb27 := Eb27.trans e
              obtain ⟨t76, ht76, hm⟩ := Option.bind_eq_some_iff.mp hm
              obtain ⟨t77, ht77, hm⟩ := Option.bind_eq_some_iff.mp hm
              refine q_app (K := K) 0 hS (ev_var rfl (rl (l := l7))) (List.Mem.head _) (ev_ixS (ev_var rfl h_text) (ev_var rfl hx25) ht76) rfl ht77 (fun F78 H79 e (hS : Hd K F78 ((l7, ownL t77) :: R) H79) => ?_)
              have h_text := mono e h_text
              have h4 := mono e h4
              have h52 := mono e h52
              have hv19 := mono e hv19
              have hx25 := mono e hx25
              have E0 := E0.trans e
              have Eb27 := Eb27.trans e
              refine s_then ?_
              refine s_then ?_
              refine s_then ?_
              refine s_then ?_
              cases hm
              refine s_end ?_
              exact hD _ _ _ Eb27 (hS) ⟨v51, v19, _, rfl, h52, hv19⟩
            · have hm := if_f hb hm
              have h_text := mono e h_text
              have h4 := mono e h4
              have h52 := mono e h52
              have hv19 := mono e hv19
              have hx25 := mono e hx25
              have E0 := E0.trans e
              have Eb27 := Eb27.trans e
              refine s_then ?_
              refine s_then ?_
              refine s_then ?_
              refine s_then ?_
              cases hm
              refine s_end ?_
              exact hD _ _ _ Eb27 (hS) ⟨v51, v19, _, rfl, h52, hv19⟩
    · skip
      intro F80 σ' H81 e hS hI
      obtain ⟨v82, v83, y84, rfl, hv82, hv83⟩ := hI
      have E0 := E0.trans e
      obtain ⟨t90, ht90, hm⟩ := Option.bind_eq_some_iff.mp hm
      obtain ⟨nt90, hnt90, hm⟩ := Option.bind_eq_some_iff.mp hm
      obtain ⟨t92, ht92, hm⟩ := Option.bind_eq_some_iff.mp hm
      cases hm
      refine q_retN (K := K) hS (evn_cat (ev_var rfl (rl (l := l7))) (EvN.fz rfl (evn_lcC (vs := [6]) (s0 := ()) (fun (s86 : Unit) => (l7, ownL s21.2.2) :: R) (fun v87 => [some v_text, some v3, some (.ref l7), some v82, some v83, y84, some v87]) (ei_list (EvN.fz rfl (evn_lst (xs := ([s21.1] : (List (List Nat)))) (eas_cons (ev_var rfl hv82) eas_nil) (Nat.le_of_ble_eq_true rfl))) lst_f) ht90 (fun _ _ _ => lst_f) (lnOk_le hnt90) (fun v87 _ _ q => q) (fun _ => rfl) (fun s86 x85 r v87 Fc91 D88 ac89 hb e_c hx85 => by
        have hv82 := mono e_c hv82
        refine ⟨(!decide (x85 = c41)), (evt_test (ev_neS (ev_var rfl hx85) ev_c41)), fun hc => ?_, fun hc => ?_⟩
        · have hb := if_f hc hb
          exact (Option.some.inj hb).symm
        · have hb := if_t hc hb
          cases hb
          exact ⟨_, rfl, (ev_var rfl hx85)⟩)
        )) (lst_o (List.Mem.head _)) lst_f ht92) (fun l F H e hS => q l F H (E0.trans e) (hd_ret 0 rfl (List.Sublist.cons _ (List.Sublist.refl _)) hS))
abbrev q_word_class := fun x : (List Nat) × Unit => m_word_class x.1
abbrev sp_word_class (K : FR) : Sp := spPure K q_word_class
theorem ok_word_class (T : Mf K mg w) : FnOk P w K mg base CX0 2 T.f_word_class T.fd_word_class ["word"] (sp_word_class K) := by
  refine T.F_word_class.ok sc_word_class (fun vs H Q E h => ?_) (fun cdv A outer s H0 vs Q E hr h => ?_)
  · obtain ⟨_, _, _, _, hx, _⟩ := h
    obtain ⟨v_word, _, rfl, h_word, rfl⟩ := hx
    rfl
  · obtain ⟨F0, R, ⟨p_word, _⟩, r, hx, hS, hm, q⟩ := h
    obtain ⟨v_word, _, rfl, h_word, rfl⟩ := hx
    have h_word : rep K F0 v_word p_word := h_word
    have hm : m_word_class p_word = some r := hm
    unfold m_word_class at hm
    have E0 := Same.refl F0
    refine ⟨_, (pss_cons (ps_if (pt_cmpR op_in_seq (pv 0) (pe_glob (v := .ref T.a_KEYWORDS) rfl T.g_KEYWORDS rfl) (by rfl)) (pss_cons (ps_ret pe_str)
       pss_nil) pss_nil)
       (pss_cons (ps_if (pt_cmpR op_in_seq (pv 0) (pe_glob (v := .ref T.a_SYMBOLS) rfl T.g_SYMBOLS rfl) (by rfl)) (pss_cons (ps_ret pe_str)
       pss_nil) pss_nil)
       (pss_cons (ps_if (pt_val (pe_call (ok_is_name T) (hr.mono (by decide)) (by rfl) T.g_is_name T.F_is_name.kp T.b_is_name .nil pass0 (pa_cons (pv 0) pa_nil))) (pss_cons (ps_ret pe_str)
       pss_nil) pss_nil)
       (pss_cons (ps_if (pt_val (pe_call (ok_is_number T) (hr.mono (by decide)) (by rfl) T.g_is_number T.F_is_number.kp T.b_is_number .nil pass0 (pa_cons (pv 0) pa_nil))) (pss_cons (ps_ret pe_str)
       pss_nil) pss_nil)
       (pss_cons (ps_ret pe_str)
       pss_nil))))), ?_⟩
    refine start_is (σ' := [some v_word]) rfl ?_
    refine q_if (K := K) (b := (isIn p_word (Tp.mk k_KEYWORDS).l)) hS (evt_test (ev_inT (ev_var rfl h_word) (ev_c T.r_KEYWORDS))) (fun hb F1 H2 e (hS : Hd K F1 (R) H2) => ?_) (fun hb F1 H2 e (hS : Hd K F1 (R) H2) => ?_)
    · have hm := if_t hb hm
      have h_word := mono e h_word
      have E0 := E0.trans e
      cases hm
      exact q_ret (K := K) hS ev_c43 (fun v F H e hS hv => q v F H (E0.trans e) (hS.sub (List.Sublist.refl _)) hv)
    · have hm := if_f hb hm
      have h_word := mono e h_word
      have E0 := E0.trans e
      refine s_then ?_
      refine q_if (K := K) (b := (isIn p_word (Tp.mk k_SYMBOLS).l)) hS (evt_test (ev_inT (ev_var rfl h_word) (ev_c T.r_SYMBOLS))) (fun hb F3 H4 e (hS : Hd K F3 (R) H4) => ?_) (fun hb F3 H4 e (hS : Hd K F3 (R) H4) => ?_)
      · have hm := if_t hb hm
        have h_word := mono e h_word
        have E0 := E0.trans e
        cases hm
        exact q_ret (K := K) hS ev_c44 (fun v F H e hS hv => q v F H (E0.trans e) (hS.sub (List.Sublist.refl _)) hv)
      · have hm := if_f hb hm
        have h_word := mono e h_word
        have E0 := E0.trans e
        refine s_then ?_
        obtain ⟨t5, ht5, hm⟩ := Option.bind_eq_some_iff.mp hm
        refine q_if (K := K) (b := t5) hS (evt_B (ev_call (m := q_is_name) (ea_cons (ev_var rfl h_word) ea_nil) ht5)) (fun hb F6 H7 e (hS : Hd K F6 (R) H7) => ?_) (fun hb F6 H7 e (hS : Hd K F6 (R) H7) => ?_)
        · have hm := if_t hb hm
          have h_word := mono e h_word
          have E0 := E0.trans e
          cases hm
          exact q_ret (K := K) hS ev_c45 (fun v F H e hS hv => q v F H (E0.trans e) (hS.sub (List.Sublist.refl _)) hv)
        · have hm := if_f hb hm
          have h_word := mono e h_word
          have E0 := E0.trans e
          refine s_then ?_
          obtain ⟨t8, ht8, hm⟩ := Option.bind_eq_some_iff.mp hm
          refine q_if (K := K) (b := t8) hS (evt_B (ev_call (m := q_is_number) (ea_cons (ev_var rfl h_word) ea_nil) ht8)) (fun hb F9 H10 e (hS : Hd K F9 (R) H10) => ?_) (fun hb F9 H10 e (hS : Hd K F9 (R) H10) => ?_)
          · have hm := if_t hb hm
            have E0 := E0.trans e
            cases hm
            exact q_ret (K := K) hS ev_c46 (fun v F H e hS hv => q v F H (E0.trans e) (hS.sub (List.Sublist.refl _)) hv)
          · have hm := if_f hb hm
            have E0 := E0.trans e
            refine s_then ?_
            cases hm
            exact q_ret (K := K) hS ev_c47 (fun v F H e hS hv => q v F H (E0.trans e) (hS.sub (List.Sublist.refl _)) hv)
abbrev q__law_class := fun x : (List Nat) × Unit => m__law_class x.1
abbrev sp__law_class (K : FR) : Sp := spPure K q__law_class
theorem ok__law_class (T : Mf K mg w) : FnOk P w K mg base CX0 2 T.f__law_class T.fd__law_class ["word"] (sp__law_class K) := by
  refine T.F__law_class.ok sc__law_class (fun vs H Q E h => ?_) (fun cdv A outer s H0 vs Q E hr h => ?_)
  · obtain ⟨_, _, _, _, hx, _⟩ := h
    obtain ⟨v_word, _, rfl, h_word, rfl⟩ := hx
    rfl
  · obtain ⟨F0, R, ⟨p_word, _⟩, r, hx, hS, hm, q⟩ := h
    obtain ⟨v_word, _, rfl, h_word, rfl⟩ := hx
    have h_word : rep K F0 v_word p_word := h_word
    have hm : m__law_class p_word = some r := hm
    unfold m__law_class at hm
    have E0 := Same.refl F0
    refine ⟨_, (pss_cons (ps_if (pt_cmpR op_in_seq (pv 0) (pe_call0 (ok__law_keywords T) (hr.mono (by decide)) (by rfl) T.g__law_keywords T.F__law_keywords.kp T.b__law_keywords .nil pass0) (by rfl)) (pss_cons (ps_ret pe_str)
       pss_nil) pss_nil)
       (pss_cons (ps_if (pt_cmpR op_in_seq (pv 0) (pe_call0 (ok__law_symbols T) (hr.mono (by decide)) (by rfl) T.g__law_symbols T.F__law_symbols.kp T.b__law_symbols .nil pass0) (by rfl)) (pss_cons (ps_ret pe_str)
       pss_nil) pss_nil)
       (pss_cons (ps_set (i := 1) sc__law_class.nd rfl (by first | exact Or.inl rfl | exact Or.inr rfl) (pe_callB call_len_seq (by rfl) T.z_len PySem.boot_len (pa_cons (pe_lc (own := [("sign", 3)]) (g := gName 3) rfl sc__law_class.nd (pi_str (pv 0)) (blkOk_by (N := N__law_class) (sc := defScope s__law_class) (by decide +kernel)) (fun _ _ _ _ _ => pg_name (i := 3) sc__law_class.nd rfl (by first | exact Or.inl rfl | exact Or.inr rfl)) (fun _ _ _ _ _ => pts_one (pt_cmpR op_in_sign (pv 3) pe_str (by rfl))) (fun _ _ _ _ _ => (pv 3))) pa_nil)))
       (pss_cons (ps_set (i := 2) sc__law_class.nd rfl (by first | exact Or.inl rfl | exact Or.inr rfl) (pe_callB call_len_seq (by rfl) T.z_len PySem.boot_len (pa_cons (pe_lc (own := [("sign", 3)]) (g := gName 3) rfl sc__law_class.nd (pi_str (pv 0)) (blkOk_by (N := N__law_class) (sc := defScope s__law_class) (by decide +kernel)) (fun _ _ _ _ _ => pg_name (i := 3) sc__law_class.nd rfl (by first | exact Or.inl rfl | exact Or.inr rfl)) (fun _ _ _ _ _ => pts_one (pt_cmpR op_in_sign (pv 3) pe_str (by rfl))) (fun _ _ _ _ _ => (pv 3))) pa_nil)))
       (pss_cons (ps_if (PW.pt (pw_or (pt_cmpR op_eq (pe_callB call_len_str (by rfl) T.z_len PySem.boot_len (pa_cons (pv 0) pa_nil)) pe_int (by rfl)) (pw_or1 (pt_cmpR op_lt (pe_op op_add (pv 1) (pv 2)) (pe_callB call_len_str (by rfl) T.z_len PySem.boot_len (pa_cons (pv 0) pa_nil)) (by rfl))))) (pss_cons (ps_ret pe_str)
       pss_nil) pss_nil)
       (pss_cons (ps_if (PW.pt (pw_and (pt_cmpR op_notIn_sign (pe_ix ix_str (pv 0) pe_int (fun _ _ => rfl)) pe_str (by rfl)) (pw_and1 (pt_cmpR op_lt (pe_callB call_len_str (by rfl) T.z_len PySem.boot_len (pa_cons (pv 0) pa_nil)) pe_int (by rfl))))) (pss_cons (ps_ret pe_str)
       pss_nil) pss_nil)
       (pss_cons (ps_if (PW.pt (pw_and (pt_cmpR op_eq (pv 2) pe_int (by rfl)) (pw_and (pt_cmpR op_lt (pe_callB call_len_str (by rfl) T.z_len PySem.boot_len (pa_cons (pv 0) pa_nil)) pe_int (by rfl)) (pw_and1 (PW.pt (pw_or (pt_cmpR op_ne (pe_ix ix_str (pv 0) pe_int (fun _ _ => rfl)) pe_str (by rfl)) (pw_or1 (pt_cmpR op_eq (pv 0) pe_str (by rfl))))))))) (pss_cons (ps_ret pe_str)
       pss_nil) pss_nil)
       (pss_cons (ps_ret pe_str)
       pss_nil)))))))), ?_⟩
    refine start_is (σ' := [some v_word, none, none, none]) rfl ?_
    obtain ⟨t1, ht1, hm⟩ := Option.bind_eq_some_iff.mp hm
    refine q_if (K := K) (b := (isIn p_word t1)) hS (evt_test (ev_inL (ev_var rfl h_word) (EvN.fz rfl (evn_call (m := q__law_keywords) ea_nil ht1)) lst_f)) (fun hb F2 H3 e (hS : Hd K F2 (R) H3) => ?_) (fun hb F2 H3 e (hS : Hd K F2 (R) H3) => ?_)
    · have hm := if_t hb hm
      have h_word := mono e h_word
      have E0 := E0.trans e
      cases hm
      exact q_ret (K := K) hS ev_c43 (fun v F H e hS hv => q v F H (E0.trans e) (hS.sub (List.Sublist.refl _)) hv)
    · have hm := if_f hb hm
      have h_word := mono e h_word
      have E0 := E0.trans e
      refine s_then ?_
      obtain ⟨t4, ht4, hm⟩ := Option.bind_eq_some_iff.mp hm
      refine q_if (K := K) (b := (isIn p_word t4)) hS (evt_test (ev_inL (ev_var rfl h_word) (EvN.fz rfl (evn_call (m := q__law_symbols) ea_nil ht4)) lst_f)) (fun hb F5 H6 e (hS : Hd K F5 (R) H6) => ?_) (fun hb F5 H6 e (hS : Hd K F5 (R) H6) => ?_)
      · have hm := if_t hb hm
        have h_word := mono e h_word
        have E0 := E0.trans e
        cases hm
        exact q_ret (K := K) hS ev_c44 (fun v F H e hS hv => q v F H (E0.trans e) (hS.sub (List.Sublist.refl _)) hv)
      · have hm := if_f hb hm
        have h_word := mono e h_word
        have E0 := E0.trans e
        refine s_then ?_
        obtain ⟨t13, ht13, hm⟩ := Option.bind_eq_some_iff.mp hm
        obtain ⟨nt13, hnt13, hm⟩ := Option.bind_eq_some_iff.mp hm
        refine q_asg (K := K) (i := 1) (σ' := fun v => [some v_word, some v, none, none]) hS (evl_len (EvN.fz rfl (evn_lcC (vs := [3]) (s0 := ()) (fun (s8 : Unit) => R) (fun v9 => [some v_word, none, none, some v9]) (ei_str (ev_var rfl h_word)) ht13 (fun _ _ _ => trivial) (lnOk_le hnt13) (fun v9 _ _ q => q) (fun _ => rfl) (fun s8 x7 r v9 Fc14 D10 ac11 hb e_c hx7 => by
          have h_word := mono e_c h_word
          obtain ⟨t12, ht12, hb⟩ := Option.bind_eq_some_iff.mp hb
          refine ⟨(t12), (evt_test (ev_inS (ev_var rfl hx7) ev_c1 ht12)), fun hc => ?_, fun hc => ?_⟩
          · have hb := if_f hc hb
            exact (Option.some.inj hb).symm
          · have hb := if_t hc hb
            cases hb
            exact ⟨_, rfl, (ev_var rfl hx7)⟩)
          )) lst_f) (fun _ => rfl) (fun v17 F15 H16 e (hS : Hd K F15 (R) H16) h18 => ?_)
        have h_word := mono e h_word
        have E0 := E0.trans e
        obtain ⟨t25, ht25, hm⟩ := Option.bind_eq_some_iff.mp hm
        obtain ⟨nt25, hnt25, hm⟩ := Option.bind_eq_some_iff.mp hm
        refine q_asg (K := K) (i := 2) (σ' := fun v => [some v_word, some v17, some v, none]) hS (evl_len (EvN.fz rfl (evn_lcC (vs := [3]) (s0 := ()) (fun (s20 : Unit) => R) (fun v21 => [some v_word, some v17, none, some v21]) (ei_str (ev_var rfl h_word)) ht25 (fun _ _ _ => trivial) (lnOk_le hnt25) (fun v21 _ _ q => q) (fun _ => rfl) (fun s20 x19 r v21 Fc26 D22 ac23 hb e_c hx19 => by
          have h_word := mono e_c h_word
          obtain ⟨t24, ht24, hb⟩ := Option.bind_eq_some_iff.mp hb
          refine ⟨(t24), (evt_test (ev_inS (ev_var rfl hx19) ev_c0 ht24)), fun hc => ?_, fun hc => ?_⟩
          · have hb := if_f hc hb
            exact (Option.some.inj hb).symm
          · have hb := if_t hc hb
            cases hb
            exact ⟨_, rfl, (ev_var rfl hx19)⟩)
          )) lst_f) (fun _ => rfl) (fun v29 F27 H28 e (hS : Hd K F27 (R) H28) h30 => ?_)
        have h_word := mono e h_word
        have h18 := mono e h18
        have E0 := E0.trans e
        refine q_if (K := K) (b := ((decide ((p_word.length : Int) = (0 : Int))) || (decide (((t13.2.length : Int) + (t25.2.length : Int)) < (p_word.length : Int))))) hS (evt_or (evt_test (ev_eqI (ev_lenS (ev_var rfl h_word)) ev_int)) (fun _ => (evt_test (ev_lt (ev_add (ev_var rfl h18) (ev_var rfl h30)) (ev_lenS (ev_var rfl h_word)))))) (fun hb F31 H32 e (hS : Hd K F31 (R) H32) => ?_) (fun hb F31 H32 e (hS : Hd K F31 (R) H32) => ?_)
        · have hm := if_t hb hm
          have h_word := mono e h_word
          have h30 := mono e h30
          have E0 := E0.trans e
          cases hm
          exact q_ret (K := K) hS ev_c47 (fun v F H e hS hv => q v F H (E0.trans e) (hS.sub (List.Sublist.refl _)) hv)
        · have hm := if_f hb hm
          have h_word := mono e h_word
          have h30 := mono e h30
          have E0 := E0.trans e
          refine s_then ?_
          obtain ⟨t33, ht33, hm⟩ := Option.bind_eq_some_iff.mp hm
          obtain ⟨t34, ht34, hm⟩ := Option.bind_eq_some_iff.mp hm
          refine q_if (K := K) (b := ((!t34) && (decide ((p_word.length : Int) < (13 : Int))))) hS (evt_and (evt_test (ev_niS (ev_ixS (ev_var rfl h_word) ev_int ht33) ev_c1 ht34)) (fun _ => (evt_test (ev_lt (ev_lenS (ev_var rfl h_word)) ev_int)))) (fun hb F35 H36 e (hS : Hd K F35 (R) H36) => ?_) (fun hb F35 H36 e (hS : Hd K F35 (R) H36) => ?_)
          · have hm := if_t hb hm
            have h_word := mono e h_word
            have h30 := mono e h30
            have E0 := E0.trans e
            cases hm
            exact q_ret (K := K) hS ev_c45 (fun v F H e hS hv => q v F H (E0.trans e) (hS.sub (List.Sublist.refl _)) hv)
          · have hm := if_f hb hm
            have h_word := mono e h_word
            have h30 := mono e h30
            have E0 := E0.trans e
            refine s_then ?_
            obtain ⟨t39, ht39, hm⟩ := Option.bind_eq_some_iff.mp hm
            refine q_if (K := K) (b := t39) hS (evt_andM ht39 (evt_test (ev_eqI (ev_var rfl h30) ev_int)) (fun _ b hb => by
              obtain ⟨t38, ht38, hb⟩ := Option.bind_eq_some_iff.mp hb
              cases hb
              exact (evt_andM ht38 (evt_test (ev_lt (ev_lenS (ev_var rfl h_word)) ev_int)) (fun _ b hb => by
              obtain ⟨t37, ht37, hb⟩ := Option.bind_eq_some_iff.mp hb
              cases hb
              exact (evt_or (evt_test (ev_neS (ev_ixS (ev_var rfl h_word) ev_int ht37) ev_c3)) (fun _ => (evt_test (ev_eqS (ev_var rfl h_word) ev_c3)))))))) (fun hb F40 H41 e (hS : Hd K F40 (R) H41) => ?_) (fun hb F40 H41 e (hS : Hd K F40 (R) H41) => ?_)
            · have hm := if_t hb hm
              have E0 := E0.trans e
              cases hm
              exact q_ret (K := K) hS ev_c46 (fun v F H e hS hv => q v F H (E0.trans e) (hS.sub (List.Sublist.refl _)) hv)
            · have hm := if_f hb hm
              have E0 := E0.trans e
              refine s_then ?_
              cases hm
              exact q_ret (K := K) hS ev_c47 (fun v F H e hS hv => q v F H (E0.trans e) (hS.sub (List.Sublist.refl _)) hv)
abbrev q__law_right := fun x : (List Nat) × Unit => m__law_right x.1
abbrev sp__law_right (K : FR) : Sp := spPure K q__law_right
theorem ok__law_right (T : Mf K mg w) : FnOk P w K mg base CX0 3 T.f__law_right T.fd__law_right ["word"] (sp__law_right K) := by
  refine T.F__law_right.ok sc__law_right (fun vs H Q E h => ?_) (fun cdv A outer s H0 vs Q E hr h => ?_)
  · obtain ⟨_, _, _, _, hx, _⟩ := h
    obtain ⟨v_word, _, rfl, h_word, rfl⟩ := hx
    rfl
  · obtain ⟨F0, R, ⟨p_word, _⟩, r, hx, hS, hm, q⟩ := h
    obtain ⟨v_word, _, rfl, h_word, rfl⟩ := hx
    have h_word : rep K F0 v_word p_word := h_word
    have hm : m__law_right p_word = some r := hm
    unfold m__law_right at hm
    have E0 := Same.refl F0
    refine ⟨_, (pss_cons (ps_set (i := 1) sc__law_right.nd rfl (by first | exact Or.inl rfl | exact Or.inr rfl) (pe_call (ok__law_class T) (hr.mono (by decide)) (by rfl) T.g__law_class T.F__law_class.kp T.b__law_class .nil pass0 (pa_cons (pv 0) pa_nil)))
       (pss_cons (ps_set (i := 2) sc__law_right.nd rfl (by first | exact Or.inl rfl | exact Or.inr rfl) (pe_call (ok_word_class T) (hr.mono (by decide)) (by rfl) T.g_word_class T.F_word_class.kp T.b_word_class .nil pass0 (pa_cons (pv 0) pa_nil)))
       (pss_cons (ps_set (i := 3) sc__law_right.nd rfl (by first | exact Or.inl rfl | exact Or.inr rfl) (pe_call (ok_is_name T) (hr.mono (by decide)) (by rfl) T.g_is_name T.F_is_name.kp T.b_is_name .nil pass0 (pa_cons (pv 0) pa_nil)))
       (pss_cons (ps_set (i := 4) sc__law_right.nd rfl (by first | exact Or.inl rfl | exact Or.inr rfl) (pe_call (ok_is_number T) (hr.mono (by decide)) (by rfl) T.g_is_number T.F_is_number.kp T.b_is_number .nil pass0 (pa_cons (pv 0) pa_nil)))
       (pss_cons (ps_if (PW.pt (pw_or (pt_not (pt_val (pe_callB call_isi (by rfl) T.z_isinstance (by decide +kernel) (pa_cons (pv 2) (pa_cons (pe_bltn (v := .ty "str") (u := .type "str") (by rfl) T.z_str (by decide +kernel) rfl) pa_nil))))) (pw_or (pt_not (pt_val (pe_callB call_isi (by rfl) T.z_isinstance (by decide +kernel) (pa_cons (pv 3) (pa_cons (pe_bltn (v := .ty "bool") (u := .type "bool") (by rfl) T.z_bool (by decide +kernel) rfl) pa_nil))))) (pw_or1 (pt_not (pt_val (pe_callB call_isi (by rfl) T.z_isinstance (by decide +kernel) (pa_cons (pv 4) (pa_cons (pe_bltn (v := .ty "bool") (u := .type "bool") (by rfl) T.z_bool (by decide +kernel) rfl) pa_nil))))))))) (pss_cons (ps_ret pe_bl)
       pss_nil) pss_nil)
       (pss_cons (ps_ret (pe_and (pe_cmpR op_eq (pv 2) (pv 1) (by rfl)) (pe_and (pe_cmpR op_eq (pv 3) (pe_cmpR op_eq (pv 1) pe_str (by rfl)) (by rfl)) (pe_one (pe_cmpR op_eq (pv 4) (pe_cmpR op_eq (pv 1) pe_str (by rfl)) (by rfl))))))
       pss_nil)))))), ?_⟩
    refine start_is (σ' := [some v_word, none, none, none, none]) rfl ?_
    obtain ⟨t1, ht1, hm⟩ := Option.bind_eq_some_iff.mp hm
    refine q_asg (K := K) (i := 1) (σ' := fun v => [some v_word, some v, none, none, none]) hS (ev_call (m := q__law_class) (ea_cons (ev_var rfl h_word) ea_nil) ht1) (fun _ => rfl) (fun v4 F2 H3 e (hS : Hd K F2 (R) H3) h5 => ?_)
    have h_word := mono e h_word
    have E0 := E0.trans e
    obtain ⟨t6, ht6, hm⟩ := Option.bind_eq_some_iff.mp hm
    refine q_asg (K := K) (i := 2) (σ' := fun v => [some v_word, some v4, some v, none, none]) hS (ev_call (m := q_word_class) (ea_cons (ev_var rfl h_word) ea_nil) ht6) (fun _ => rfl) (fun v9 F7 H8 e (hS : Hd K F7 (R) H8) h10 => ?_)
    have h_word := mono e h_word
    have h5 := mono e h5
    have E0 := E0.trans e
    obtain ⟨t11, ht11, hm⟩ := Option.bind_eq_some_iff.mp hm
    refine q_asg (K := K) (i := 3) (σ' := fun v => [some v_word, some v4, some v9, some v, none]) hS (ev_call (m := q_is_name) (ea_cons (ev_var rfl h_word) ea_nil) ht11) (fun _ => rfl) (fun v14 F12 H13 e (hS : Hd K F12 (R) H13) h15 => ?_)
    have h_word := mono e h_word
    have h5 := mono e h5
    have h10 := mono e h10
    have E0 := E0.trans e
    obtain ⟨t16, ht16, hm⟩ := Option.bind_eq_some_iff.mp hm
    refine q_asg (K := K) (i := 4) (σ' := fun v => [some v_word, some v4, some v9, some v14, some v]) hS (ev_call (m := q_is_number) (ea_cons (ev_var rfl h_word) ea_nil) ht16) (fun _ => rfl) (fun v19 F17 H18 e (hS : Hd K F17 (R) H18) h20 => ?_)
    have h5 := mono e h5
    have h10 := mono e h10
    have h15 := mono e h15
    have E0 := E0.trans e
    refine q_if (K := K) (b := ((!true) || ((!true) || (!true)))) hS (evt_or (evt_not (evt_B (ev_isi (b := true) (ev_var rfl h10) tya_str (by decide +kernel)))) (fun _ => (evt_or (evt_not (evt_B (ev_isi (b := true) (ev_var rfl h15) tya_bool (by decide +kernel)))) (fun _ => (evt_not (evt_B (ev_isi (b := true) (ev_var rfl h20) tya_bool (by decide +kernel)))))))) (fun hb F21 H22 e (hS : Hd K F21 (R) H22) => ?_) (fun hb F21 H22 e (hS : Hd K F21 (R) H22) => ?_)
    · have hm := if_t hb hm
      have h5 := mono e h5
      have h10 := mono e h10
      have h15 := mono e h15
      have h20 := mono e h20
      have E0 := E0.trans e
      cases hm
      exact q_ret (K := K) hS ev_bl (fun v F H e hS hv => q v F H (E0.trans e) (hS.sub (List.Sublist.refl _)) hv)
    · have hm := if_f hb hm
      have h5 := mono e h5
      have h10 := mono e h10
      have h15 := mono e h15
      have h20 := mono e h20
      have E0 := E0.trans e
      refine s_then ?_
      cases hm
      exact q_ret (K := K) hS (ev_andV (ev_eqS (ev_var rfl h10) (ev_var rfl h5)) (fun _ => (ev_andV (ev_eqB (ev_var rfl h15) (ev_eqS (ev_var rfl h5) ev_c45)) (fun _ => (ev_eqB (ev_var rfl h20) (ev_eqS (ev_var rfl h5) ev_c46)))))) (fun v F H e hS hv => q v F H (E0.trans e) (hS.sub (List.Sublist.refl _)) hv)
abbrev q_law := fun x : Scr × Unit => m_law x.1
abbrev sp_law (K : FR) : Sp := spPure K q_law
theorem ok_law (T : Mf K mg w) : FnOk P w K mg base CX0 4 T.f_law T.fd_law ["script"] (sp_law K) := by
  refine T.F_law.ok sc_law (fun vs H Q E h => ?_) (fun cdv A outer s H0 vs Q E hr h => ?_)
  · obtain ⟨_, _, _, _, hx, _⟩ := h
    obtain ⟨v_script, _, rfl, h_script, rfl⟩ := hx
    rfl
  · obtain ⟨F0, R, ⟨p_script, _⟩, r, hx, hS, hm, q⟩ := h
    obtain ⟨v_script, _, rfl, h_script, rfl⟩ := hx
    have h_script : rep K F0 v_script p_script := h_script
    have hm : m_law p_script = some r := hm
    unfold m_law at hm
    have E0 := Same.refl F0
    refine ⟨_, (pss_cons (ps_set (i := 1) sc_law.nd rfl (by first | exact Or.inl rfl | exact Or.inr rfl) (pe_call (ok__law_draws T) (hr.mono (by decide)) (by rfl) T.g__law_draws T.F__law_draws.kp T.b__law_draws .nil pass0 (pa_cons (pv 0) (pa_cons pe_int pa_nil))))
       (pss_cons (ps_set (i := 2) sc_law.nd rfl (by first | exact Or.inl rfl | exact Or.inr rfl) (pe_lst (pa_cons pe_int pa_nil)))
       (pss_cons (ps_set (i := 3) sc_law.nd rfl (by first | exact Or.inl rfl | exact Or.inr rfl) (pe_call0 (ok__law_signs T) (hr.mono (by decide)) (by rfl) T.g__law_signs T.F__law_signs.kp T.b__law_signs .nil pass0))
       (Evl.pss_cut (ps_if (pt_cmpR op_eq (pe_call (ok__law_take T) (hr.mono (by decide)) (by rfl) T.g__law_take T.F__law_take.kp T.b__law_take .nil pass0 (pa_cons (pv 1) (pa_cons (pv 2) (pa_cons pe_int pa_nil)))) pe_int (by rfl)) (pss_cons (ps_set (i := 3) sc_law.nd rfl (by first | exact Or.inl rfl | exact Or.inr rfl) (pe_op op_add_str pe_str (pe_ix ix_str (pv 3) (pe_call (ok__law_take T) (hr.mono (by decide)) (by rfl) T.g__law_take T.F__law_take.kp T.b__law_take .nil pass0 (pa_cons (pv 1) (pa_cons (pv 2) (pa_cons pe_int pa_nil)))) (fun _ _ => rfl))))
       pss_nil) pss_nil)
       (pss_cons (ps_set (i := 4) sc_law.nd rfl (by first | exact Or.inl rfl | exact Or.inr rfl) (pe_call (ok__law_take T) (hr.mono (by decide)) (by rfl) T.g__law_take T.F__law_take.kp T.b__law_take .nil pass0 (pa_cons (pv 1) (pa_cons (pv 2) (pa_cons pe_int pa_nil)))))
       (pss_cons (ps_set (i := 5) sc_law.nd rfl (by first | exact Or.inl rfl | exact Or.inr rfl) (pe_join pe_str (pe_lc (own := [("k", 12)]) (g := gName 12) rfl sc_law.nd (pi_range1 (by rfl) T.z_range (pa_cons (pv 4) pa_nil)) (blkOk_by (N := N_law) (sc := defScope s_law) (by decide +kernel)) (fun _ _ _ _ _ => pg_name (i := 12) sc_law.nd rfl (by first | exact Or.inl rfl | exact Or.inr rfl)) (fun _ _ _ _ _ => pts_nil) (fun _ _ _ _ _ => (pe_ix ix_str (pv 3) (pe_call (ok__law_take T) (hr.mono (by decide)) (by rfl) T.g__law_take T.F__law_take.kp T.b__law_take .nil pass0 (pa_cons (pv 1) (pa_cons (pv 2) (pa_cons (pe_callB call_len_str (by rfl) T.z_len PySem.boot_len (pa_cons (pv 3) pa_nil)) pa_nil)))) (fun _ _ => rfl))))))
       (pss_cons (ps_set (i := 6) sc_law.nd rfl (by first | exact Or.inl rfl | exact Or.inr rfl) (pe_call (ok_split_words T) (hr.mono (by decide)) (by rfl) T.g_split_words T.F_split_words.kp T.b_split_words .nil pass0 (pa_cons (pv 5) pa_nil)))
       (pss_cons (ps_if (PW.pt (pw_or (pt_not (pt_val (pe_callB call_isi (by rfl) T.z_isinstance (by decide +kernel) (pa_cons (pv 6) (pa_cons (pe_bltn (v := .ty "list") (u := .type "list") (by rfl) T.z_list (by decide +kernel) rfl) pa_nil))))) (pw_or1 (pt_cmpR (op_neD hr.units) (pv 6) (pe_call (ok__law_words T) (hr.mono (by decide)) (by rfl) T.g__law_words T.F__law_words.kp T.b__law_words .nil pass0 (pa_cons (pv 5) pa_nil)) (by rfl))))) (pss_cons (ps_ret pe_bl)
       pss_nil) pss_nil)
       (pss_cons (ps_set (i := 7) sc_law.nd rfl (by first | exact Or.inl rfl | exact Or.inr rfl) (pe_join pe_str (pe_lc (own := [("k", 12)]) (g := gName 12) rfl sc_law.nd (pi_range1 (by rfl) T.z_range (pa_cons (pe_op op_add pe_int (pe_call (ok__law_take T) (hr.mono (by decide)) (by rfl) T.g__law_take T.F__law_take.kp T.b__law_take .nil pass0 (pa_cons (pv 1) (pa_cons (pv 2) (pa_cons pe_int pa_nil))))) pa_nil)) (blkOk_by (N := N_law) (sc := defScope s_law) (by decide +kernel)) (fun _ _ _ _ _ => pg_name (i := 12) sc_law.nd rfl (by first | exact Or.inl rfl | exact Or.inr rfl)) (fun _ _ _ _ _ => pts_nil) (fun _ _ _ _ _ => (pe_ix ix_str pe_str (pe_call (ok__law_take T) (hr.mono (by decide)) (by rfl) T.g__law_take T.F__law_take.kp T.b__law_take .nil pass0 (pa_cons (pv 1) (pa_cons (pv 2) (pa_cons pe_int pa_nil)))) (fun _ _ => rfl))))))
       (pss_cons (ps_set (i := 8) sc_law.nd rfl (by first | exact Or.inl rfl | exact Or.inr rfl) (pe_join pe_str (pe_lc (own := [("k", 12)]) (g := gName 12) rfl sc_law.nd (pi_range1 (by rfl) T.z_range (pa_cons (pe_op op_add pe_int (pe_call (ok__law_take T) (hr.mono (by decide)) (by rfl) T.g__law_take T.F__law_take.kp T.b__law_take .nil pass0 (pa_cons (pv 1) (pa_cons (pv 2) (pa_cons pe_int pa_nil))))) pa_nil)) (blkOk_by (N := N_law) (sc := defScope s_law) (by decide +kernel)) (fun _ _ _ _ _ => pg_name (i := 12) sc_law.nd rfl (by first | exact Or.inl rfl | exact Or.inr rfl)) (fun _ _ _ _ _ => pts_nil) (fun _ _ _ _ _ => (pe_ix ix_str pe_str (pe_call (ok__law_take T) (hr.mono (by decide)) (by rfl) T.g__law_take T.F__law_take.kp T.b__law_take .nil pass0 (pa_cons (pv 1) (pa_cons (pv 2) (pa_cons pe_int pa_nil)))) (fun _ _ => rfl))))))
       (pss_cons (ps_set (i := 9) sc_law.nd rfl (by first | exact Or.inl rfl | exact Or.inr rfl) (pe_op op_cat (pv 6) (pe_lst (pa_cons (pv 7) (pa_cons (pv 8) (pa_cons (pe_op op_add_str pe_str (pv 8)) (pa_cons (pe_op op_add_str (pv 7) pe_str) (pa_cons pe_str (pa_cons (pe_op op_mulS pe_str pe_int) (pa_cons (pe_op op_mulS pe_str pe_int) (pa_cons (pe_op op_mulS pe_str pe_int) (pa_cons (pe_op op_mulS pe_str pe_int) (pa_cons pe_str (pa_cons pe_str (pa_cons pe_str (pa_cons pe_str pa_nil))))))))))))))))
       (pss_cons (ps_for PassesOwn.never rfl (pi_list (pe_op op_cat (pe_op op_cat (pv 9) (pe_call0 (ok__law_keywords T) (hr.mono (by decide)) (by rfl) T.g__law_keywords T.F__law_keywords.kp T.b__law_keywords .nil pass0)) (pe_call0 (ok__law_symbols T) (hr.mono (by decide)) (by rfl) T.g__law_symbols T.F__law_symbols.kp T.b__law_symbols .nil pass0))) (pg_name (i := 10) sc_law.nd rfl (by first | exact Or.inl rfl | exact Or.inr rfl)) (pss_cons (ps_if (pt_not (pt_val (pe_call (ok__law_right T) (hr.mono (by decide)) (by rfl) T.g__law_right T.F__law_right.kp T.b__law_right .nil pass0 (pa_cons (pv 10) pa_nil)))) (pss_cons (ps_ret pe_bl)
       pss_nil) pss_nil)
       pss_nil))
       (pss_cons (ps_if (pt_cmpR (op_neD hr.units) (pe_call (ok_split_words T) (hr.mono (by decide)) (by rfl) T.g_split_words T.F_split_words.kp T.b_split_words .nil pass0 (pa_cons (pe_join pe_str (pe_op op_cat (pe_call0 (ok__law_keywords T) (hr.mono (by decide)) (by rfl) T.g__law_keywords T.F__law_keywords.kp T.b__law_keywords .nil pass0) (pe_call0 (ok__law_symbols T) (hr.mono (by decide)) (by rfl) T.g__law_symbols T.F__law_symbols.kp T.b__law_symbols .nil pass0))) pa_nil)) (pe_op op_cat (pe_call0 (ok__law_keywords T) (hr.mono (by decide)) (by rfl) T.g__law_keywords T.F__law_keywords.kp T.b__law_keywords .nil pass0) (pe_call0 (ok__law_symbols T) (hr.mono (by decide)) (by rfl) T.g__law_symbols T.F__law_symbols.kp T.b__law_symbols .nil pass0)) (by rfl)) (pss_cons (ps_ret pe_bl)
       pss_nil) pss_nil)
       (pss_cons (ps_set (i := 11) sc_law.nd rfl (by first | exact Or.inl rfl | exact Or.inr rfl) (pe_lst (pa_cons (pe_ix (ix_kd T.D_LEVELS) (pe_glob (v := .ref T.a_LEVELS) rfl T.g_LEVELS rfl) pe_str (fun _ _ => rfl)) (pa_cons (pe_ix (ix_kd T.D_LEVELS) (pe_glob (v := .ref T.a_LEVELS) rfl T.g_LEVELS rfl) pe_str (fun _ _ => rfl)) (pa_cons (pe_ix (ix_kd T.D_LEVELS) (pe_glob (v := .ref T.a_LEVELS) rfl T.g_LEVELS rfl) pe_str (fun _ _ => rfl)) (pa_cons (pe_ix (ix_kd T.D_LEVELS) (pe_glob (v := .ref T.a_LEVELS) rfl T.g_LEVELS rfl) pe_str (fun _ _ => rfl)) (pa_cons (pe_ix (ix_kd T.D_LEVELS) (pe_glob (v := .ref T.a_LEVELS) rfl T.g_LEVELS rfl) pe_str (fun _ _ => rfl)) (pa_cons (pe_ix (ix_kd T.D_LEVELS) (pe_glob (v := .ref T.a_LEVELS) rfl T.g_LEVELS rfl) pe_str (fun _ _ => rfl)) (pa_cons (pe_ix (ix_kd T.D_LEVELS) (pe_glob (v := .ref T.a_LEVELS) rfl T.g_LEVELS rfl) pe_str (fun _ _ => rfl)) (pa_cons (pe_ix (ix_kd T.D_LEVELS) (pe_glob (v := .ref T.a_LEVELS) rfl T.g_LEVELS rfl) pe_str (fun _ _ => rfl)) pa_nil))))))))))
       (pss_cons (ps_ret (pe_and (pe_cmpR (op_eqD hr.units) (pv 11) (pe_lst (pa_cons pe_int (pa_cons pe_int (pa_cons pe_int (pa_cons pe_int (pa_cons pe_int (pa_cons pe_int (pa_cons pe_int (pa_cons pe_int pa_nil))))))))) (by rfl)) (pe_one (pe_cmpR op_eq (pe_callB (call_len_kd T.D_LEVELS T.nd_LEVELS (by rw [T.ln_LEVELS]; decide)) (by rfl) T.z_len PySem.boot_len (pa_cons (pe_glob (v := .ref T.a_LEVELS) rfl T.g_LEVELS rfl) pa_nil)) pe_int (by rfl)))))
       pss_nil))))))))))))))), ?_⟩
    refine start_is (σ' := [some v_script, none, none, none, none, none, none, none, none, none, none, none, none]) rfl ?_
    obtain ⟨t1, ht1, hm⟩ := Option.bind_eq_some_iff.mp hm
    refine q_asg (K := K) (i := 1) (σ' := fun v => [some v_script, some v, none, none, none, none, none, none, none, none, none, none, none]) hS (EvN.fz rfl (evn_call (m := q__law_draws) (ea_cons (ev_var rfl h_script) (ea_cons ev_int ea_nil)) ht1)) (fun _ => rfl) (fun v4 F2 H3 e (hS : Hd K F2 (R) H3) h5 => ?_)
    have E0 := E0.trans e
    refine q_asgN (K := K) (i := 2) (σ' := fun v => [some v_script, some v4, some v, none, none, none, none, none, none, none, none, none, none]) hS (evn_lst (xs := ([(0 : Int)] : (List Int))) (eas_cons ev_int eas_nil) (Nat.le_of_ble_eq_true rfl)) (fun _ => rfl) (fun l8 F6 H7 e (hS : Hd K F6 ((l8, ownL ([(0 : Int)] : (List Int))) :: R) H7) => ?_)
    have h5 := mono e h5
    have E0 := E0.trans e
    obtain ⟨t9, ht9, hm⟩ := Option.bind_eq_some_iff.mp hm
    refine q_asg (K := K) (i := 3) (σ' := fun v => [some v_script, some v4, some (.ref l8), some v, none, none, none, none, none, none, none, none, none]) hS (ev_call (m := q__law_signs) ea_nil ht9) (fun _ => rfl) (fun v12 F10 H11 e (hS : Hd K F10 ((l8, ownL ([(0 : Int)] : (List Int))) :: R) H11) h13 => ?_)
    have h5 := mono e h5
    have E0 := E0.trans e
    obtain ⟨t14, ht14, hm⟩ := Option.bind_eq_some_iff.mp hm
    obtain ⟨s15, hj17, hm⟩ := Option.bind_eq_some_iff.mp hm
    refine q_ifc (K := K) (b := (decide (t14.1 = (1 : Int)))) (fun σ' H' => (∃ (F : Hp) (v16 : V), Same F10 F ∧ Hd K F ((l8, ownL s15.2) :: R) H' ∧ σ' = [some v_script, some v4, some (.ref l8), some v16, none, none, none, none, none, none, none, none, none] ∧ rep K F v16 s15.1)) hS (evt_test (ev_eqI (ev_callIO (m := q__law_take) 0 (ea_cons (ev_var rfl h5) (ea_cons (ev_var rfl (rl (l := l8))) (ea_cons ev_int ea_nil))) rfl ht14) ev_int)) (fun hb F18 H19 e (hS : Hd K F18 ((l8, ownL t14.2) :: R) H19) => ?_) (fun hb F18 H19 e (hS : Hd K F18 ((l8, ownL t14.2) :: R) H19) => ?_) (fun σ' H' hM => ?_)
    · have hm := if_t hb hj17
      have Ej20 := Same.refl F10
      have h5 := mono e h5
      have h13 := mono e h13
      have E0 := E0.trans e
      have Ej20 := Ej20.trans e
      obtain ⟨t21, ht21, hm⟩ := Option.bind_eq_some_iff.mp hm
      obtain ⟨t22, ht22, hm⟩ := Option.bind_eq_some_iff.mp hm
      obtain ⟨t23, ht23, hm⟩ := Option.bind_eq_some_iff.mp hm
      refine q_asg (K := K) (i := 3) (σ' := fun v => [some v_script, some v4, some (.ref l8), some v, none, none, none, none, none, none, none, none, none]) hS (ev_catS ev_c48 (ev_ixS (ev_var rfl h13) (ev_callIO (m := q__law_take) 0 (ea_cons (ev_var rfl h5) (ea_cons (ev_var rfl (rl (l := l8))) (ea_cons ev_int ea_nil))) rfl ht21) ht22) ht23) (fun _ => rfl) (fun v26 F24 H25 e (hS : Hd K F24 ((l8, ownL t21.2) :: R) H25) h27 => ?_)
      have h5 := mono e h5
      have E0 := E0.trans e
      have Ej20 := Ej20.trans e
      cases hm
      refine s_end ?_
      exact ⟨_, v26, Ej20, hS, rfl, h27⟩
    · have hm := if_f hb hj17
      have Ej20 := Same.refl F10
      have h5 := mono e h5
      have h13 := mono e h13
      have E0 := E0.trans e
      have Ej20 := Ej20.trans e
      cases hm
      refine s_end ?_
      exact ⟨_, v12, Ej20, hS, rfl, h13⟩
    obtain ⟨F28, v16, e, hS, rfl, hv16⟩ := hM
    have h5 := mono e h5
    have E0 := E0.trans e
    obtain ⟨t30, ht30, hm⟩ := Option.bind_eq_some_iff.mp hm
    refine q_asg (K := K) (i := 4) (σ' := fun v => [some v_script, some v4, some (.ref l8), some v16, some v, none, none, none, none, none, none, none, none]) hS (ev_callIO (m := q__law_take) 0 (ea_cons (ev_var rfl h5) (ea_cons (ev_var rfl (rl (l := l8))) (ea_cons ev_int ea_nil))) rfl ht30) (fun _ => rfl) (fun v33 F31 H32 e (hS : Hd K F31 ((l8, ownL t30.2) :: R) H32) h34 => ?_)
    have h5 := mono e h5
    have hv16 := mono e hv16
    have E0 := E0.trans e
    obtain ⟨xs35, hxs35, hm⟩ := Option.bind_eq_some_iff.mp hm
    obtain ⟨t43, ht43, hm⟩ := Option.bind_eq_some_iff.mp hm
    obtain ⟨nt43, hnt43, hm⟩ := Option.bind_eq_some_iff.mp hm
    obtain ⟨t45, ht45, hm⟩ := Option.bind_eq_some_iff.mp hm
    refine q_asg (K := K) (i := 5) (σ' := fun v => [some v_script, some v4, some (.ref l8), some v16, some v33, some v, none, none, none, none, none, none, none]) hS (ev_join ev_c41 (EvN.fz rfl (evn_lcC (vs := [12]) (s0 := t30.2) (fun (s37 : (List Int)) => (l8, ownL s37) :: R) (fun v38 => [some v_script, some v4, some (.ref l8), some v16, some v33, none, none, none, none, none, none, none, some v38]) (ei_rng1 (ea_cons (ev_var rfl h34) ea_nil) hxs35) ht43 (fun _ _ _ => trivial) (lnOk_le hnt43) (fun v38 _ _ q => q) (fun _ => rfl) (fun s37 x36 r v38 Fc44 D39 ac40 hb e_c hx36 => by
      have h5 := mono e_c h5
      have hv16 := mono e_c hv16
      have h34 := mono e_c h34
      refine ⟨true, evt_yes, fun hc => (by cases hc), fun hc => ?_⟩
      obtain ⟨t41, ht41, hb⟩ := Option.bind_eq_some_iff.mp hb
      obtain ⟨t42, ht42, hb⟩ := Option.bind_eq_some_iff.mp hb
      cases hb
      exact ⟨_, rfl, (ev_ixS (ev_var rfl hv16) (ev_callIO (m := q__law_take) 1 (ea_cons (ev_var rfl h5) (ea_cons (ev_var rfl (rl (l := l8))) (ea_cons (ev_lenS (ev_var rfl hv16)) ea_nil))) rfl ht41) ht42)⟩)
      )) lst_f ht45) (fun _ => rfl) (fun v48 F46 H47 e (hS : Hd K F46 ((l8, ownL t43.1) :: R) H47) h49 => ?_)
    have h5 := mono e h5
    have E0 := E0.trans e
    obtain ⟨t50, ht50, hm⟩ := Option.bind_eq_some_iff.mp hm
    refine q_asg (K := K) (i := 6) (σ' := fun v => [some v_script, some v4, some (.ref l8), some v16, some v33, some v48, some v, none, none, none, none, none, none]) hS (EvN.fz rfl (evn_call (m := q_split_words) (ea_cons (ev_var rfl h49) ea_nil) ht50)) (fun _ => rfl) (fun v53 F51 H52 e (hS : Hd K F51 ((l8, ownL t43.1) :: R) H52) h54 => ?_)
    have h5 := mono e h5
    have h49 := mono e h49
    have E0 := E0.trans e
    obtain ⟨t56, ht56, hm⟩ := Option.bind_eq_some_iff.mp hm
    refine q_if (K := K) (b := t56) hS (evt_orM ht56 (evt_not (evt_B (ev_isi (b := true) (ev_var rfl h54) (tya_list lst_f) (by decide +kernel)))) (fun _ b hb => by
      obtain ⟨t55, ht55, hb⟩ := Option.bind_eq_some_iff.mp hb
      cases hb
      exact (evt_test (ev_neL (ev_var rfl h54) (EvN.fz rfl (evn_call (m := q__law_words) (ea_cons (ev_var rfl h49) ea_nil) ht55)) lst_f lst_f (by decide))))) (fun hb F57 H58 e (hS : Hd K F57 ((l8, ownL t43.1) :: R) H58) => ?_) (fun hb F57 H58 e (hS : Hd K F57 ((l8, ownL t43.1) :: R) H58) => ?_)
    · have hm := if_t hb hm
      have h5 := mono e h5
      have h54 := mono e h54
      have E0 := E0.trans e
      cases hm
      exact q_ret (K := K) hS ev_bl (fun v F H e hS hv => q v F H (E0.trans e) (hS.sub (List.Sublist.cons _ (List.Sublist.refl _))) hv)
    · have hm := if_f hb hm
      have h5 := mono e h5
      have h54 := mono e h54
      have E0 := E0.trans e
      refine s_then ?_
      obtain ⟨t59, ht59, hm⟩ := Option.bind_eq_some_iff.mp hm
      obtain ⟨xs60, hxs60, hm⟩ := Option.bind_eq_some_iff.mp hm
      obtain ⟨t68, ht68, hm⟩ := Option.bind_eq_some_iff.mp hm
      obtain ⟨nt68, hnt68, hm⟩ := Option.bind_eq_some_iff.mp hm
      obtain ⟨t70, ht70, hm⟩ := Option.bind_eq_some_iff.mp hm
      refine q_asg (K := K) (i := 7) (σ' := fun v => [some v_script, some v4, some (.ref l8), some v16, some v33, some v48, some v53, some v, none, none, none, none, none]) hS (ev_join ev_c41 (EvN.fz rfl (evn_lcC (vs := [12]) (s0 := t59.2) (fun (s62 : (List Int)) => (l8, ownL s62) :: R) (fun v63 => [some v_script, some v4, some (.ref l8), some v16, some v33, some v48, some v53, none, none, none, none, none, some v63]) (ei_rng1 (ea_cons (ev_add ev_int (ev_callIO (m := q__law_take) 0 (ea_cons (ev_var rfl h5) (ea_cons (ev_var rfl (rl (l := l8))) (ea_cons ev_int ea_nil))) rfl ht59)) ea_nil) hxs60) ht68 (fun _ _ _ => trivial) (lnOk_le hnt68) (fun v63 _ _ q => q) (fun _ => rfl) (fun s62 x61 r v63 Fc69 D64 ac65 hb e_c hx61 => by
        have h5 := mono e_c h5
        refine ⟨true, evt_yes, fun hc => (by cases hc), fun hc => ?_⟩
        obtain ⟨t66, ht66, hb⟩ := Option.bind_eq_some_iff.mp hb
        obtain ⟨t67, ht67, hb⟩ := Option.bind_eq_some_iff.mp hb
        cases hb
        exact ⟨_, rfl, (ev_ixS ev_c49 (ev_callIO (m := q__law_take) 1 (ea_cons (ev_var rfl h5) (ea_cons (ev_var rfl (rl (l := l8))) (ea_cons ev_int ea_nil))) rfl ht66) ht67)⟩)
        )) lst_f ht70) (fun _ => rfl) (fun v73 F71 H72 e (hS : Hd K F71 ((l8, ownL t68.1) :: R) H72) h74 => ?_)
      have h5 := mono e h5
      have h54 := mono e h54
      have E0 := E0.trans e
      obtain ⟨t75, ht75, hm⟩ := Option.bind_eq_some_iff.mp hm
      obtain ⟨xs76, hxs76, hm⟩ := Option.bind_eq_some_iff.mp hm
      obtain ⟨t84, ht84, hm⟩ := Option.bind_eq_some_iff.mp hm
      obtain ⟨nt84, hnt84, hm⟩ := Option.bind_eq_some_iff.mp hm
      obtain ⟨t86, ht86, hm⟩ := Option.bind_eq_some_iff.mp hm
      refine q_asg (K := K) (i := 8) (σ' := fun v => [some v_script, some v4, some (.ref l8), some v16, some v33, some v48, some v53, some v73, some v, none, none, none, none]) hS (ev_join ev_c41 (EvN.fz rfl (evn_lcC (vs := [12]) (s0 := t75.2) (fun (s78 : (List Int)) => (l8, ownL s78) :: R) (fun v79 => [some v_script, some v4, some (.ref l8), some v16, some v33, some v48, some v53, some v73, none, none, none, none, some v79]) (ei_rng1 (ea_cons (ev_add ev_int (ev_callIO (m := q__law_take) 0 (ea_cons (ev_var rfl h5) (ea_cons (ev_var rfl (rl (l := l8))) (ea_cons ev_int ea_nil))) rfl ht75)) ea_nil) hxs76) ht84 (fun _ _ _ => trivial) (lnOk_le hnt84) (fun v79 _ _ q => q) (fun _ => rfl) (fun s78 x77 r v79 Fc85 D80 ac81 hb e_c hx77 => by
        have h5 := mono e_c h5
        refine ⟨true, evt_yes, fun hc => (by cases hc), fun hc => ?_⟩
        obtain ⟨t82, ht82, hb⟩ := Option.bind_eq_some_iff.mp hb
        obtain ⟨t83, ht83, hb⟩ := Option.bind_eq_some_iff.mp hb
        cases hb
        exact ⟨_, rfl, (ev_ixS ev_c1 (ev_callIO (m := q__law_take) 1 (ea_cons (ev_var rfl h5) (ea_cons (ev_var rfl (rl (l := l8))) (ea_cons ev_int ea_nil))) rfl ht82) ht83)⟩)
        )) lst_f ht86) (fun _ => rfl) (fun v89 F87 H88 e (hS : Hd K F87 ((l8, ownL t84.1) :: R) H88) h90 => ?_)
      have h54 := mono e h54
      have h74 := mono e h74
      have E0 := E0.trans e
      obtain ⟨t91, ht91, hm⟩ := Option.bind_eq_some_iff.mp hm
      obtain ⟨t92, ht92, hm⟩ := Option.bind_eq_some_iff.mp hm
      obtain ⟨t93, ht93, hm⟩ := Option.bind_eq_some_iff.mp hm
      obtain ⟨t94, ht94, hm⟩ := Option.bind_eq_some_iff.mp hm
      obtain ⟨t95, ht95, hm⟩ := Option.bind_eq_some_iff.mp hm
      obtain ⟨t96, ht96, hm⟩ := Option.bind_eq_some_iff.mp hm
      obtain ⟨t97, ht97, hm⟩ := Option.bind_eq_some_iff.mp hm
      refine q_asg (K := K) (i := 9) (σ' := fun v => [some v_script, some v4, some (.ref l8), some v16, some v33, some v48, some v53, some v73, some v89, some v, none, none, none]) hS (EvN.fz rfl (evn_cat (ev_var rfl h54) (EvN.fz rfl (evn_lst (xs := ([t70, t86, t91, t92, c41, t93, t94, t95, t96, c3, c53, c54, c55] : (List (List Nat)))) (eas_cons (ev_var rfl h74) (eas_cons (ev_var rfl h90) (eas_cons (ev_catS ev_c50 (ev_var rfl h90) ht91) (eas_cons (ev_catS (ev_var rfl h74) ev_c51 ht92) (eas_cons ev_c41 (eas_cons (ev_mulS ev_c50 ev_int ht93) (eas_cons (ev_mulS ev_c50 ev_int ht94) (eas_cons (ev_mulS ev_c52 ev_int ht95) (eas_cons (ev_mulS ev_c52 ev_int ht96) (eas_cons ev_c3 (eas_cons ev_c53 (eas_cons ev_c54 (eas_cons ev_c55 eas_nil))))))))))))) (Nat.le_of_ble_eq_true rfl))) lst_f lst_f ht97)) (fun _ => rfl) (fun v100 F98 H99 e (hS : Hd K F98 ((l8, ownL t84.1) :: R) H99) h101 => ?_)
      have E0 := E0.trans e
      obtain ⟨t102, ht102, hm⟩ := Option.bind_eq_some_iff.mp hm
      obtain ⟨t103, ht103, hm⟩ := Option.bind_eq_some_iff.mp hm
      obtain ⟨t104, ht104, hm⟩ := Option.bind_eq_some_iff.mp hm
      obtain ⟨t105, ht105, hm⟩ := Option.bind_eq_some_iff.mp hm
      obtain ⟨c108, hc108, hm⟩ := Option.bind_eq_some_iff.mp hm
      refine q_for (K := K) (OR := R) (R := Bool) (s0 := ()) (fun (s106 : Unit) => (l8, ownL t84.1) :: R) (fun (s106 : Unit) F σ' => ∃ (y107 : Option V), σ' = [some v_script, some v4, some (.ref l8), some v16, some v33, some v48, some v53, some v73, some v89, some v100, y107, none, none]) hS (ei_list (EvN.fz rfl (evn_cat (EvN.fz rfl (evn_cat (ev_var rfl h101) (EvN.fz rfl (evn_call (m := q__law_keywords) ea_nil ht102)) lst_f lst_f ht103)) (EvN.fz rfl (evn_call (m := q__law_symbols) ea_nil ht104)) lst_f lst_f ht105)) lst_f) hc108 (fun _ => lst_f) (fun F eI => ⟨_, rfl⟩) (fun s106 x112 c115 v113 F109 F110 σ' H111 hb eA hI eB hS hx112 D' hct hD => ?_) ?_
      · obtain ⟨y107, rfl⟩ := hI
        have hm := hb
        have E0 := E0.trans (eA.trans eB)
        have Eb114 := Same.refl F110
        refine for_name (σ' := [some v_script, some v4, some (.ref l8), some v16, some v33, some v48, some v53, some v73, some v89, some v100, some v113, none, none]) rfl ?_
        obtain ⟨t116, ht116, hm⟩ := Option.bind_eq_some_iff.mp hm
        refine q_if (K := K) (b := (!t116)) hS (evt_not (evt_B (ev_call (m := q__law_right) (ea_cons (ev_var rfl hx112) ea_nil) ht116))) (fun hb F117 H118 e (hS : Hd K F117 ((l8, ownL t84.1) :: R) H118) => ?_) (fun hb F117 H118 e (hS : Hd K F117 ((l8, ownL t84.1) :: R) H118) => ?_)
        · have hm := if_t hb hm
          have hx112 := mono e hx112
          have E0 := E0.trans e
          have Eb114 := Eb114.trans e
          cases hm
          exact q_ret (K := K) hS ev_bl (fun v F H e hS hv => hD v F H (Eb114.trans e) (hS.sub (List.Sublist.cons _ (List.Sublist.refl _))) hv)
        · have hm := if_f hb hm
          have hx112 := mono e hx112
          have E0 := E0.trans e
          have Eb114 := Eb114.trans e
          refine s_then ?_
          cases hm
          refine s_end ?_
          exact hD _ _ _ Eb114 (hS) ⟨_, rfl⟩
      · cases c108 with
        | nx s119 =>
          intro F122 σ' H123 e hS hI
          obtain ⟨y124, rfl⟩ := hI
          have E0 := E0.trans e
          obtain ⟨t125, ht125, hm⟩ := Option.bind_eq_some_iff.mp hm
          obtain ⟨t126, ht126, hm⟩ := Option.bind_eq_some_iff.mp hm
          obtain ⟨t127, ht127, hm⟩ := Option.bind_eq_some_iff.mp hm
          obtain ⟨t128, ht128, hm⟩ := Option.bind_eq_some_iff.mp hm
          obtain ⟨t129, ht129, hm⟩ := Option.bind_eq_some_iff.mp hm
          obtain ⟨t130, ht130, hm⟩ := Option.bind_eq_some_iff.mp hm
          obtain ⟨t131, ht131, hm⟩ := Option.bind_eq_some_iff.mp hm
          obtain ⟨t132, ht132, hm⟩ := Option.bind_eq_some_iff.mp hm
          refine q_if (K := K) (b := (!decide ((t129 : (List (List Nat))) = t132))) hS (evt_test (ev_neL (EvN.fz rfl (evn_call (m := q_split_words) (ea_cons (ev_join ev_c5 (EvN.fz rfl (evn_cat (EvN.fz rfl (evn_call (m := q__law_keywords) ea_nil ht125)) (EvN.fz rfl (evn_call (m := q__law_symbols) ea_nil ht126)) lst_f lst_f ht127)) lst_f ht128) ea_nil) ht129)) (EvN.fz rfl (evn_cat (EvN.fz rfl (evn_call (m := q__law_keywords) ea_nil ht130)) (EvN.fz rfl (evn_call (m := q__law_symbols) ea_nil ht131)) lst_f lst_f ht132)) lst_f lst_f (by decide))) (fun hb F133 H134 e (hS : Hd K F133 ((l8, ownL t84.1) :: R) H134) => ?_) (fun hb F133 H134 e (hS : Hd K F133 ((l8, ownL t84.1) :: R) H134) => ?_)
          · have hm := if_t hb hm
            have E0 := E0.trans e
            cases hm
            exact q_ret (K := K) hS ev_bl (fun v F H e hS hv => q v F H (E0.trans e) (hS.sub (List.Sublist.cons _ (List.Sublist.refl _))) hv)
          · have hm := if_f hb hm
            have E0 := E0.trans e
            refine s_then ?_
            refine q_asg (K := K) (i := 11) (σ' := fun v => [some v_script, some v4, some (.ref l8), some v16, some v33, some v48, some v53, some v73, some v89, some v100, y124, some v, none]) hS (EvN.fz rfl (evn_lst (xs := ([(1 : Int), (2 : Int), (3 : Int), (3 : Int), (4 : Int), (4 : Int), (5 : Int), (5 : Int)] : (List Int))) (eas_cons (ev_ixKd (s := "|") (by decide +kernel) (ev_c (rl (l := T.a_LEVELS))) ev_c39 T.kn_LEVELS_0 T.kt_LEVELS_0) (eas_cons (ev_ixKd (s := "&") (by decide +kernel) (ev_c (rl (l := T.a_LEVELS))) ev_c25 T.kn_LEVELS_1 T.kt_LEVELS_1) (eas_cons (ev_ixKd (s := "==") (by decide +kernel) (ev_c (rl (l := T.a_LEVELS))) ev_c4 T.kn_LEVELS_2 T.kt_LEVELS_2) (eas_cons (ev_ixKd (s := "<") (by decide +kernel) (ev_c (rl (l := T.a_LEVELS))) ev_c34 T.kn_LEVELS_3 T.kt_LEVELS_3) (eas_cons (ev_ixKd (s := "+") (by decide +kernel) (ev_c (rl (l := T.a_LEVELS))) ev_c29 T.kn_LEVELS_4 T.kt_LEVELS_4) (eas_cons (ev_ixKd (s := "-") (by decide +kernel) (ev_c (rl (l := T.a_LEVELS))) ev_c31 T.kn_LEVELS_5 T.kt_LEVELS_5) (eas_cons (ev_ixKd (s := "*") (by decide +kernel) (ev_c (rl (l := T.a_LEVELS))) ev_c28 T.kn_LEVELS_6 T.kt_LEVELS_6) (eas_cons (ev_ixKd (s := "/") (by decide +kernel) (ev_c (rl (l := T.a_LEVELS))) ev_c32 T.kn_LEVELS_7 T.kt_LEVELS_7) eas_nil)))))))) (Nat.le_of_ble_eq_true rfl))) (fun _ => rfl) (fun v137 F135 H136 e (hS : Hd K F135 ((l8, ownL t84.1) :: R) H136) h138 => ?_)
            have E0 := E0.trans e
            cases hm
            exact q_ret (K := K) hS (ev_andV (ev_eqL (ev_var rfl h138) (EvN.fz rfl (evn_lst (xs := ([(1 : Int), (2 : Int), (3 : Int), (3 : Int), (4 : Int), (4 : Int), (5 : Int), (5 : Int)] : (List Int))) (eas_cons ev_int (eas_cons ev_int (eas_cons ev_int (eas_cons ev_int (eas_cons ev_int (eas_cons ev_int (eas_cons ev_int (eas_cons ev_int eas_nil)))))))) (Nat.le_of_ble_eq_true rfl))) lst_f lst_f (by decide)) (fun _ => (ev_eqI (ev_is (ev_lenKd (ev_c (rl (l := T.a_LEVELS)))) (by rw [T.ln_LEVELS]; rfl)) ev_int))) (fun v F H e hS hv => q v F H (E0.trans e) (hS.sub (List.Sublist.cons _ (List.Sublist.refl _))) hv)
        | bk s120 =>
          cases hm
        | rt r121 =>
          cases hm
          exact fun v F H e hS hv => q v F H (E0.trans e) hS hv
end
end K00

namespace K00
open PySem PySem.Spec PyProof.Rows L2 G
section
set_option maxHeartbeats 0
variable {w : World} {K : FR} {h : Heap} {mg : Str → Option Value}
def mkF (X : K.In h) (G : h.Ns mainGlobals mg)
  {a_KEYWORDS : Addr} {dd_KEYWORDS : Option Addr} {its_KEYWORDS : Array Value} {n_KEYWORDS : Nat} {sl_KEYWORDS : Array (Option Value)}
  {a_LEVELS : Addr} {es_LEVELS : Array DictEntry} {n_LEVELS : Nat}
  {ku_LEVELS_0 : Value}
  {ku_LEVELS_1 : Value}
  {ku_LEVELS_2 : Value}
  {ku_LEVELS_3 : Value}
  {ku_LEVELS_4 : Value}
  {ku_LEVELS_5 : Value}
  {ku_LEVELS_6 : Value}
  {ku_LEVELS_7 : Value}
  {t_LETTERS : Tok}
  {t_DIGITS : Tok}
  {t_WORD_SIGNS : Tok}
  {a_SYMBOLS : Addr} {dd_SYMBOLS : Option Addr} {its_SYMBOLS : Array Value} {n_SYMBOLS : Nat} {sl_SYMBOLS : Array (Option Value)}
  {t_NAME_SIGNS : Tok}
  {t_NUMBER_DIGITS : Tok}
  {f_is_name : Addr} {od_is_name an_is_name : Option Addr} {osl_is_name : Array (Option Value)} {oc_is_name kV_is_name dc_is_name pm_is_name cd_is_name ct_is_name : Value}
  {f_is_number : Addr} {od_is_number an_is_number : Option Addr} {osl_is_number : Array (Option Value)} {oc_is_number kV_is_number dc_is_number pm_is_number cd_is_number ct_is_number : Value}
  {f_split_words : Addr} {od_split_words an_split_words : Option Addr} {osl_split_words : Array (Option Value)} {oc_split_words kV_split_words dc_split_words pm_split_words cd_split_words ct_split_words : Value}
  {f__law_draws : Addr} {od__law_draws an__law_draws : Option Addr} {osl__law_draws : Array (Option Value)} {oc__law_draws kV__law_draws dc__law_draws pm__law_draws cd__law_draws ct__law_draws : Value}
  {f__law_take : Addr} {od__law_take an__law_take : Option Addr} {osl__law_take : Array (Option Value)} {oc__law_take kV__law_take dc__law_take pm__law_take cd__law_take ct__law_take : Value}
  {f__law_signs : Addr} {od__law_signs an__law_signs : Option Addr} {osl__law_signs : Array (Option Value)} {oc__law_signs kV__law_signs dc__law_signs pm__law_signs cd__law_signs ct__law_signs : Value}
  {f__law_keywords : Addr} {od__law_keywords an__law_keywords : Option Addr} {osl__law_keywords : Array (Option Value)} {oc__law_keywords kV__law_keywords dc__law_keywords pm__law_keywords cd__law_keywords ct__law_keywords : Value}
  {f__law_symbols : Addr} {od__law_symbols an__law_symbols : Option Addr} {osl__law_symbols : Array (Option Value)} {oc__law_symbols kV__law_symbols dc__law_symbols pm__law_symbols cd__law_symbols ct__law_symbols : Value}
  {f__law_words : Addr} {od__law_words an__law_words : Option Addr} {osl__law_words : Array (Option Value)} {oc__law_words kV__law_words dc__law_words pm__law_words cd__law_words ct__law_words : Value}
  {f_word_class : Addr} {od_word_class an_word_class : Option Addr} {osl_word_class : Array (Option Value)} {oc_word_class kV_word_class dc_word_class pm_word_class cd_word_class ct_word_class : Value}
  {f__law_class : Addr} {od__law_class an__law_class : Option Addr} {osl__law_class : Array (Option Value)} {oc__law_class kV__law_class dc__law_class pm__law_class cd__law_class ct__law_class : Value}
  {f__law_right : Addr} {od__law_right an__law_right : Option Addr} {osl__law_right : Array (Option Value)} {oc__law_right kV__law_right dc__law_right pm__law_right cd__law_right ct__law_right : Value}
  {f_law : Addr} {od_law an_law : Option Addr} {osl_law : Array (Option Value)} {oc_law kV_law dc_law pm_law cd_law ct_law : Value}
  (z_abs : PySem.W.nsIn K mainGlobals "abs" = some none)
  (z_all : PySem.W.nsIn K mainGlobals "all" = some none)
  (z_bool : PySem.W.nsIn K mainGlobals "bool" = some none)
  (z_int : PySem.W.nsIn K mainGlobals "int" = some none)
  (z_isinstance : PySem.W.nsIn K mainGlobals "isinstance" = some none)
  (z_len : PySem.W.nsIn K mainGlobals "len" = some none)
  (z_list : PySem.W.nsIn K mainGlobals "list" = some none)
  (z_max : PySem.W.nsIn K mainGlobals "max" = some none)
  (z_range : PySem.W.nsIn K mainGlobals "range" = some none)
  (z_str : PySem.W.nsIn K mainGlobals "str" = some none)
  (g_KEYWORDS : PySem.W.nsIn K mainGlobals "KEYWORDS" = some (some (.ref a_KEYWORDS)))
  (lk_KEYWORDS : K.lookup a_KEYWORDS = some ⟨.type "tuple", dd_KEYWORDS, .seq its_KEYWORDS n_KEYWORDS, sl_KEYWORDS⟩)
  (hv_KEYWORDS : its_KEYWORDS.size ≤ sizeLine ∧ Paired (rep K (fun _ => none)) ((k_KEYWORDS).map tx) (k_KEYWORDS) ∧ Vals ((k_KEYWORDS).map tx) its_KEYWORDS.toList)
  (g_LEVELS : PySem.W.nsIn K mainGlobals "LEVELS" = some (some (.ref a_LEVELS)))
  (lk_LEVELS : K.lookup a_LEVELS = some ⟨.type "dict", none, .dict es_LEVELS n_LEVELS, #[]⟩)
  (kl_LEVELS : PySem.W.KeysLit w.params es_LEVELS.toList)
  (sm_LEVELS : (a_LEVELS == sysModules) = false)
  (nd_LEVELS : (es_LEVELS.toList.map keyS).Nodup)
  (ln_LEVELS : es_LEVELS.toList.length = 8)
  (kn_LEVELS_0 : PySem.W.nsIn K a_LEVELS "|" = some (some ku_LEVELS_0))
  (kt_LEVELS_0 : ∃ t, ku_LEVELS_0 = .int 1 t)
  (kn_LEVELS_1 : PySem.W.nsIn K a_LEVELS "&" = some (some ku_LEVELS_1))
  (kt_LEVELS_1 : ∃ t, ku_LEVELS_1 = .int 2 t)
  (kn_LEVELS_2 : PySem.W.nsIn K a_LEVELS "==" = some (some ku_LEVELS_2))
  (kt_LEVELS_2 : ∃ t, ku_LEVELS_2 = .int 3 t)
  (kn_LEVELS_3 : PySem.W.nsIn K a_LEVELS "<" = some (some ku_LEVELS_3))
  (kt_LEVELS_3 : ∃ t, ku_LEVELS_3 = .int 3 t)
  (kn_LEVELS_4 : PySem.W.nsIn K a_LEVELS "+" = some (some ku_LEVELS_4))
  (kt_LEVELS_4 : ∃ t, ku_LEVELS_4 = .int 4 t)
  (kn_LEVELS_5 : PySem.W.nsIn K a_LEVELS "-" = some (some ku_LEVELS_5))
  (kt_LEVELS_5 : ∃ t, ku_LEVELS_5 = .int 4 t)
  (kn_LEVELS_6 : PySem.W.nsIn K a_LEVELS "*" = some (some ku_LEVELS_6))
  (kt_LEVELS_6 : ∃ t, ku_LEVELS_6 = .int 5 t)
  (kn_LEVELS_7 : PySem.W.nsIn K a_LEVELS "/" = some (some ku_LEVELS_7))
  (kt_LEVELS_7 : ∃ t, ku_LEVELS_7 = .int 5 t)
  (g_LETTERS : PySem.W.nsIn K mainGlobals "LETTERS" = some (some (.str "abcdefghijklmnopqrstuvwxyz" t_LETTERS)))
  (g_DIGITS : PySem.W.nsIn K mainGlobals "DIGITS" = some (some (.str "0123456789" t_DIGITS)))
  (g_WORD_SIGNS : PySem.W.nsIn K mainGlobals "WORD_SIGNS" = some (some (.str "abcdefghijklmnopqrstuvwxyz0123456789" t_WORD_SIGNS)))
  (g_SYMBOLS : PySem.W.nsIn K mainGlobals "SYMBOLS" = some (some (.ref a_SYMBOLS)))
  (lk_SYMBOLS : K.lookup a_SYMBOLS = some ⟨.type "tuple", dd_SYMBOLS, .seq its_SYMBOLS n_SYMBOLS, sl_SYMBOLS⟩)
  (hv_SYMBOLS : its_SYMBOLS.size ≤ sizeLine ∧ Paired (rep K (fun _ => none)) ((k_SYMBOLS).map tx) (k_SYMBOLS) ∧ Vals ((k_SYMBOLS).map tx) its_SYMBOLS.toList)
  (g_NAME_SIGNS : PySem.W.nsIn K mainGlobals "NAME_SIGNS" = some (some (.int (12 : Int) t_NAME_SIGNS)))
  (g_NUMBER_DIGITS : PySem.W.nsIn K mainGlobals "NUMBER_DIGITS" = some (some (.int (9 : Int) t_NUMBER_DIGITS)))
  (a_is_name : PySem.W.nsIn K mainGlobals "is_name" = some (some (.ref f_is_name)))
  (l_is_name : K.lookup f_is_name = some ⟨oc_is_name, od_is_name, .func (PySem.W.fnOf "is_name" "is_name" (defArgs s_is_name) (defBody s_is_name) (defScope s_is_name) .none kV_is_name dc_is_name pm_is_name an_is_name cd_is_name ct_is_name), osl_is_name⟩)
  (c_is_name : PySem.W.codeIn K cd_is_name "is_name" = true)
  (k_is_name : PySem.W.keepIn K (.ref f_is_name) = true)
  (a_is_number : PySem.W.nsIn K mainGlobals "is_number" = some (some (.ref f_is_number)))
  (l_is_number : K.lookup f_is_number = some ⟨oc_is_number, od_is_number, .func (PySem.W.fnOf "is_number" "is_number" (defArgs s_is_number) (defBody s_is_number) (defScope s_is_number) .none kV_is_number dc_is_number pm_is_number an_is_number cd_is_number ct_is_number), osl_is_number⟩)
  (c_is_number : PySem.W.codeIn K cd_is_number "is_number" = true)
  (k_is_number : PySem.W.keepIn K (.ref f_is_number) = true)
  (a_split_words : PySem.W.nsIn K mainGlobals "split_words" = some (some (.ref f_split_words)))
  (l_split_words : K.lookup f_split_words = some ⟨oc_split_words, od_split_words, .func (PySem.W.fnOf "split_words" "split_words" (defArgs s_split_words) (defBody s_split_words) (defScope s_split_words) .none kV_split_words dc_split_words pm_split_words an_split_words cd_split_words ct_split_words), osl_split_words⟩)
  (c_split_words : PySem.W.codeIn K cd_split_words "split_words" = true)
  (k_split_words : PySem.W.keepIn K (.ref f_split_words) = true)
  (a__law_draws : PySem.W.nsIn K mainGlobals "_law_draws" = some (some (.ref f__law_draws)))
  (l__law_draws : K.lookup f__law_draws = some ⟨oc__law_draws, od__law_draws, .func (PySem.W.fnOf "_law_draws" "_law_draws" (defArgs s__law_draws) (defBody s__law_draws) (defScope s__law_draws) .none kV__law_draws dc__law_draws pm__law_draws an__law_draws cd__law_draws ct__law_draws), osl__law_draws⟩)
  (c__law_draws : PySem.W.codeIn K cd__law_draws "_law_draws" = true)
  (k__law_draws : PySem.W.keepIn K (.ref f__law_draws) = true)
  (a__law_take : PySem.W.nsIn K mainGlobals "_law_take" = some (some (.ref f__law_take)))
  (l__law_take : K.lookup f__law_take = some ⟨oc__law_take, od__law_take, .func (PySem.W.fnOf "_law_take" "_law_take" (defArgs s__law_take) (defBody s__law_take) (defScope s__law_take) .none kV__law_take dc__law_take pm__law_take an__law_take cd__law_take ct__law_take), osl__law_take⟩)
  (c__law_take : PySem.W.codeIn K cd__law_take "_law_take" = true)
  (k__law_take : PySem.W.keepIn K (.ref f__law_take) = true)
  (a__law_signs : PySem.W.nsIn K mainGlobals "_law_signs" = some (some (.ref f__law_signs)))
  (l__law_signs : K.lookup f__law_signs = some ⟨oc__law_signs, od__law_signs, .func (PySem.W.fnOf "_law_signs" "_law_signs" (defArgs s__law_signs) (defBody s__law_signs) (defScope s__law_signs) .none kV__law_signs dc__law_signs pm__law_signs an__law_signs cd__law_signs ct__law_signs), osl__law_signs⟩)
  (c__law_signs : PySem.W.codeIn K cd__law_signs "_law_signs" = true)
  (k__law_signs : PySem.W.keepIn K (.ref f__law_signs) = true)
  (a__law_keywords : PySem.W.nsIn K mainGlobals "_law_keywords" = some (some (.ref f__law_keywords)))
  (l__law_keywords : K.lookup f__law_keywords = some ⟨oc__law_keywords, od__law_keywords, .func (PySem.W.fnOf "_law_keywords" "_law_keywords" (defArgs s__law_keywords) (defBody s__law_keywords) (defScope s__law_keywords) .none kV__law_keywords dc__law_keywords pm__law_keywords an__law_keywords cd__law_keywords ct__law_keywords), osl__law_keywords⟩)
  (c__law_keywords : PySem.W.codeIn K cd__law_keywords "_law_keywords" = true)
  (k__law_keywords : PySem.W.keepIn K (.ref f__law_keywords) = true)
  (a__law_symbols : PySem.W.nsIn K mainGlobals "_law_symbols" = some (some (.ref f__law_symbols)))
  (l__law_symbols : K.lookup f__law_symbols = some ⟨oc__law_symbols, od__law_symbols, .func (PySem.W.fnOf "_law_symbols" "_law_symbols" (defArgs s__law_symbols) (defBody s__law_symbols) (defScope s__law_symbols) .none kV__law_symbols dc__law_symbols pm__law_symbols an__law_symbols cd__law_symbols ct__law_symbols), osl__law_symbols⟩)
  (c__law_symbols : PySem.W.codeIn K cd__law_symbols "_law_symbols" = true)
  (k__law_symbols : PySem.W.keepIn K (.ref f__law_symbols) = true)
  (a__law_words : PySem.W.nsIn K mainGlobals "_law_words" = some (some (.ref f__law_words)))
  (l__law_words : K.lookup f__law_words = some ⟨oc__law_words, od__law_words, .func (PySem.W.fnOf "_law_words" "_law_words" (defArgs s__law_words) (defBody s__law_words) (defScope s__law_words) .none kV__law_words dc__law_words pm__law_words an__law_words cd__law_words ct__law_words), osl__law_words⟩)
  (c__law_words : PySem.W.codeIn K cd__law_words "_law_words" = true)
  (k__law_words : PySem.W.keepIn K (.ref f__law_words) = true)
  (a_word_class : PySem.W.nsIn K mainGlobals "word_class" = some (some (.ref f_word_class)))
  (l_word_class : K.lookup f_word_class = some ⟨oc_word_class, od_word_class, .func (PySem.W.fnOf "word_class" "word_class" (defArgs s_word_class) (defBody s_word_class) (defScope s_word_class) .none kV_word_class dc_word_class pm_word_class an_word_class cd_word_class ct_word_class), osl_word_class⟩)
  (c_word_class : PySem.W.codeIn K cd_word_class "word_class" = true)
  (k_word_class : PySem.W.keepIn K (.ref f_word_class) = true)
  (a__law_class : PySem.W.nsIn K mainGlobals "_law_class" = some (some (.ref f__law_class)))
  (l__law_class : K.lookup f__law_class = some ⟨oc__law_class, od__law_class, .func (PySem.W.fnOf "_law_class" "_law_class" (defArgs s__law_class) (defBody s__law_class) (defScope s__law_class) .none kV__law_class dc__law_class pm__law_class an__law_class cd__law_class ct__law_class), osl__law_class⟩)
  (c__law_class : PySem.W.codeIn K cd__law_class "_law_class" = true)
  (k__law_class : PySem.W.keepIn K (.ref f__law_class) = true)
  (a__law_right : PySem.W.nsIn K mainGlobals "_law_right" = some (some (.ref f__law_right)))
  (l__law_right : K.lookup f__law_right = some ⟨oc__law_right, od__law_right, .func (PySem.W.fnOf "_law_right" "_law_right" (defArgs s__law_right) (defBody s__law_right) (defScope s__law_right) .none kV__law_right dc__law_right pm__law_right an__law_right cd__law_right ct__law_right), osl__law_right⟩)
  (c__law_right : PySem.W.codeIn K cd__law_right "_law_right" = true)
  (k__law_right : PySem.W.keepIn K (.ref f__law_right) = true)
  (a_law : PySem.W.nsIn K mainGlobals "law" = some (some (.ref f_law)))
  (l_law : K.lookup f_law = some ⟨oc_law, od_law, .func (PySem.W.fnOf "law" "law" (defArgs s_law) (defBody s_law) (defScope s_law) .none kV_law dc_law pm_law an_law cd_law ct_law), osl_law⟩)
  (c_law : PySem.W.codeIn K cd_law "law" = true)
  (k_law : PySem.W.keepIn K (.ref f_law) = true) : Mf K mg w where
  z_abs := PySem.W.mg_none_of X G z_abs
  z_all := PySem.W.mg_none_of X G z_all
  z_bool := PySem.W.mg_none_of X G z_bool
  z_int := PySem.W.mg_none_of X G z_int
  z_isinstance := PySem.W.mg_none_of X G z_isinstance
  z_len := PySem.W.mg_none_of X G z_len
  z_list := PySem.W.mg_none_of X G z_list
  z_max := PySem.W.mg_none_of X G z_max
  z_range := PySem.W.mg_none_of X G z_range
  z_str := PySem.W.mg_none_of X G z_str
  a_KEYWORDS := a_KEYWORDS
  g_KEYWORDS := PySem.W.mg_of X G g_KEYWORDS
  r_KEYWORDS := fun {F} => ⟨a_KEYWORDS, _, rfl, .inr ⟨_, its_KEYWORDS, n_KEYWORDS, lk_KEYWORDS, rfl, rfl, hv_KEYWORDS.1, hv_KEYWORDS.2.2⟩, pmono (fun _ _ h => by cases h) hv_KEYWORDS.2.1⟩
  a_LEVELS := a_LEVELS
  es_LEVELS := es_LEVELS
  n_LEVELS := n_LEVELS
  g_LEVELS := PySem.W.mg_of X G g_LEVELS
  D_LEVELS := ⟨lk_LEVELS, kl_LEVELS, sm_LEVELS⟩
  nd_LEVELS := nd_LEVELS
  ln_LEVELS := ln_LEVELS
  ku_LEVELS_0 := ku_LEVELS_0
  kn_LEVELS_0 := kn_LEVELS_0
  kt_LEVELS_0 := kt_LEVELS_0
  ku_LEVELS_1 := ku_LEVELS_1
  kn_LEVELS_1 := kn_LEVELS_1
  kt_LEVELS_1 := kt_LEVELS_1
  ku_LEVELS_2 := ku_LEVELS_2
  kn_LEVELS_2 := kn_LEVELS_2
  kt_LEVELS_2 := kt_LEVELS_2
  ku_LEVELS_3 := ku_LEVELS_3
  kn_LEVELS_3 := kn_LEVELS_3
  kt_LEVELS_3 := kt_LEVELS_3
  ku_LEVELS_4 := ku_LEVELS_4
  kn_LEVELS_4 := kn_LEVELS_4
  kt_LEVELS_4 := kt_LEVELS_4
  ku_LEVELS_5 := ku_LEVELS_5
  kn_LEVELS_5 := kn_LEVELS_5
  kt_LEVELS_5 := kt_LEVELS_5
  ku_LEVELS_6 := ku_LEVELS_6
  kn_LEVELS_6 := kn_LEVELS_6
  kt_LEVELS_6 := kt_LEVELS_6
  ku_LEVELS_7 := ku_LEVELS_7
  kn_LEVELS_7 := kn_LEVELS_7
  kt_LEVELS_7 := kt_LEVELS_7
  t_LETTERS := t_LETTERS
  g_LETTERS := PySem.W.mg_of X G g_LETTERS
  t_DIGITS := t_DIGITS
  g_DIGITS := PySem.W.mg_of X G g_DIGITS
  t_WORD_SIGNS := t_WORD_SIGNS
  g_WORD_SIGNS := PySem.W.mg_of X G g_WORD_SIGNS
  a_SYMBOLS := a_SYMBOLS
  g_SYMBOLS := PySem.W.mg_of X G g_SYMBOLS
  r_SYMBOLS := fun {F} => ⟨a_SYMBOLS, _, rfl, .inr ⟨_, its_SYMBOLS, n_SYMBOLS, lk_SYMBOLS, rfl, rfl, hv_SYMBOLS.1, hv_SYMBOLS.2.2⟩, pmono (fun _ _ h => by cases h) hv_SYMBOLS.2.1⟩
  t_NAME_SIGNS := t_NAME_SIGNS
  g_NAME_SIGNS := PySem.W.mg_of X G g_NAME_SIGNS
  t_NUMBER_DIGITS := t_NUMBER_DIGITS
  g_NUMBER_DIGITS := PySem.W.mg_of X G g_NUMBER_DIGITS
  f_is_name := f_is_name
  fd_is_name := _
  F_is_name := fun_mk (st := s_is_name) l_is_name c_is_name k_is_name
  g_is_name := PySem.W.mg_of X G a_is_name
  b_is_name := (fun_mk (st := s_is_name) l_is_name c_is_name k_is_name).binds (ps := ["word"]) fun _ _ _ _ _ _ us hl => match us, hl with | [_], _ => rfl
  f_is_number := f_is_number
  fd_is_number := _
  F_is_number := fun_mk (st := s_is_number) l_is_number c_is_number k_is_number
  g_is_number := PySem.W.mg_of X G a_is_number
  b_is_number := (fun_mk (st := s_is_number) l_is_number c_is_number k_is_number).binds (ps := ["word"]) fun _ _ _ _ _ _ us hl => match us, hl with | [_], _ => rfl
  f_split_words := f_split_words
  fd_split_words := _
  F_split_words := fun_mk (st := s_split_words) l_split_words c_split_words k_split_words
  g_split_words := PySem.W.mg_of X G a_split_words
  b_split_words := (fun_mk (st := s_split_words) l_split_words c_split_words k_split_words).binds (ps := ["text"]) fun _ _ _ _ _ _ us hl => match us, hl with | [_], _ => rfl
  f__law_draws := f__law_draws
  fd__law_draws := _
  F__law_draws := fun_mk (st := s__law_draws) l__law_draws c__law_draws k__law_draws
  g__law_draws := PySem.W.mg_of X G a__law_draws
  b__law_draws := (fun_mk (st := s__law_draws) l__law_draws c__law_draws k__law_draws).binds (ps := ["script", "count"]) fun _ _ _ _ _ _ us hl => match us, hl with | [_, _], _ => rfl
  f__law_take := f__law_take
  fd__law_take := _
  F__law_take := fun_mk (st := s__law_take) l__law_take c__law_take k__law_take
  g__law_take := PySem.W.mg_of X G a__law_take
  b__law_take := (fun_mk (st := s__law_take) l__law_take c__law_take k__law_take).binds (ps := ["draws", "at", "many"]) fun _ _ _ _ _ _ us hl => match us, hl with | [_, _, _], _ => rfl
  f__law_signs := f__law_signs
  fd__law_signs := _
  F__law_signs := fun_mk (st := s__law_signs) l__law_signs c__law_signs k__law_signs
  g__law_signs := PySem.W.mg_of X G a__law_signs
  b__law_signs := (fun_mk (st := s__law_signs) l__law_signs c__law_signs k__law_signs).binds (ps := []) fun _ _ _ _ _ _ us hl => match us, hl with | [], _ => rfl
  f__law_keywords := f__law_keywords
  fd__law_keywords := _
  F__law_keywords := fun_mk (st := s__law_keywords) l__law_keywords c__law_keywords k__law_keywords
  g__law_keywords := PySem.W.mg_of X G a__law_keywords
  b__law_keywords := (fun_mk (st := s__law_keywords) l__law_keywords c__law_keywords k__law_keywords).binds (ps := []) fun _ _ _ _ _ _ us hl => match us, hl with | [], _ => rfl
  f__law_symbols := f__law_symbols
  fd__law_symbols := _
  F__law_symbols := fun_mk (st := s__law_symbols) l__law_symbols c__law_symbols k__law_symbols
  g__law_symbols := PySem.W.mg_of X G a__law_symbols
  b__law_symbols := (fun_mk (st := s__law_symbols) l__law_symbols c__law_symbols k__law_symbols).binds (ps := []) fun _ _ _ _ _ _ us hl => match us, hl with | [], _ => rfl
  f__law_words := f__law_words
  fd__law_words := _
  F__law_words := fun_mk (st := s__law_words) l__law_words c__law_words k__law_words
  g__law_words := PySem.W.mg_of X G a__law_words
  b__law_words := (fun_mk (st := s__law_words) l__law_words c__law_words k__law_words).binds (ps := ["text"]) fun _ _ _ _ _ _ us hl => match us, hl with | [_], _ => rfl
  f_word_class := f_word_class
  fd_word_class := _
  F_word_class := fun_mk (st := s_word_class) l_word_class c_word_class k_word_class
  g_word_class := PySem.W.mg_of X G a_word_class
  b_word_class := (fun_mk (st := s_word_class) l_word_class c_word_class k_word_class).binds (ps := ["word"]) fun _ _ _ _ _ _ us hl => match us, hl with | [_], _ => rfl
  f__law_class := f__law_class
  fd__law_class := _
  F__law_class := fun_mk (st := s__law_class) l__law_class c__law_class k__law_class
  g__law_class := PySem.W.mg_of X G a__law_class
  b__law_class := (fun_mk (st := s__law_class) l__law_class c__law_class k__law_class).binds (ps := ["word"]) fun _ _ _ _ _ _ us hl => match us, hl with | [_], _ => rfl
  f__law_right := f__law_right
  fd__law_right := _
  F__law_right := fun_mk (st := s__law_right) l__law_right c__law_right k__law_right
  g__law_right := PySem.W.mg_of X G a__law_right
  b__law_right := (fun_mk (st := s__law_right) l__law_right c__law_right k__law_right).binds (ps := ["word"]) fun _ _ _ _ _ _ us hl => match us, hl with | [_], _ => rfl
  f_law := f_law
  fd_law := _
  F_law := fun_mk (st := s_law) l_law c_law k_law
  g_law := PySem.W.mg_of X G a_law
  b_law := (fun_mk (st := s_law) l_law c_law k_law).binds (ps := ["script"]) fun _ _ _ _ _ _ us hl => match us, hl with | [_], _ => rfl
theorem all_mk {l : PySem.W.OpenLaw} {fa : Addr} (hfa : mg "law" = some (.ref fa)) (T : Mf K mg w) (hf : ∀ (s : Shared) (v : Value), BindsTo s T.fd_law ⟨[v], []⟩ [("script", v)]) : ∃ fd : FuncData, (∀ (s : Shared) (v : Value), BindsTo s fd ⟨[v], []⟩ [("script", v)]) ∧ ∀ base : Heap, K.In base → base.Ns mainGlobals mg → FnOk l.prog w K mg base CX0 4 fa fd ["script"] (sp_law K) := by
  have e := hfa.symm.trans T.g_law
  cases e
  exact ⟨T.fd_law, hf, fun base _ _ => ok_law T⟩
theorem sp_end {K : FR} {H : Hp} {a : Addr} {ns : List Int} (hS : SqL K H a (ns.map V.int)) (hm : m_law ⟨ns⟩ = some true) : sp_law K [.ref a] H (fun v _ => v = .bl true) fun _ _ _ => False :=
  ⟨H, [], (⟨ns⟩, ()), true, ⟨.ref a, [], rfl, ⟨a, rfl, hS⟩, rfl⟩, ⟨Same.refl _, (fun p hp => by cases hp), List.nodup_nil⟩, hm, fun v F' H' _ _ r => r⟩
end
end K00
open PySem PySem.W PyProof.Rows
set_option maxHeartbeats 0 in
theorem PySem.Challenge.cw_everyproduct_k00_words_of_plain_texts_holds : PySem.Challenge.rw_everyproduct_k00_words_of_plain_texts.Holds := by
  w_on; o_law; k_head; (case hw => w_witness2)
  k_fill
  refine L2.walk_ofB (l := PySem.Challenge.rw_everyproduct_k00_words_of_plain_texts) (n := 63) (k := 4) (x := "script") (CX := fun _ => L2.CX0) (sp := fun w => K00.sp_law _) rfl (by decide) rfl ⟨rfl, by decide, by decide⟩ (fun w h Y => PySem.W.kIn_of Y) ?F (fun _ _ a ns hl hb _ hS => K00.sp_end hS (K00.law_true ns hl hb)) (fun _ _ _ _ _ h => h)
  case F =>
    intro w mg fa h KX G hmg
    refine' K00.all_mk hmg (K00.mkF KX G ?z_abs ?z_all ?z_bool ?z_int ?z_isinstance ?z_len ?z_list ?z_max ?z_range ?z_str ?g_KEYWORDS ?lk_KEYWORDS ?hv_KEYWORDS ?g_LEVELS ?lk_LEVELS ?kl_LEVELS ?sm_LEVELS ?nd_LEVELS ?ln_LEVELS ?kn_LEVELS_0 ?kt_LEVELS_0 ?kn_LEVELS_1 ?kt_LEVELS_1 ?kn_LEVELS_2 ?kt_LEVELS_2 ?kn_LEVELS_3 ?kt_LEVELS_3 ?kn_LEVELS_4 ?kt_LEVELS_4 ?kn_LEVELS_5 ?kt_LEVELS_5 ?kn_LEVELS_6 ?kt_LEVELS_6 ?kn_LEVELS_7 ?kt_LEVELS_7 ?g_LETTERS ?g_DIGITS ?g_WORD_SIGNS ?g_SYMBOLS ?lk_SYMBOLS ?hv_SYMBOLS ?g_NAME_SIGNS ?g_NUMBER_DIGITS ?a_is_name ?l_is_name ?c_is_name ?k_is_name ?a_is_number ?l_is_number ?c_is_number ?k_is_number ?a_split_words ?l_split_words ?c_split_words ?k_split_words ?a__law_draws ?l__law_draws ?c__law_draws ?k__law_draws ?a__law_take ?l__law_take ?c__law_take ?k__law_take ?a__law_signs ?l__law_signs ?c__law_signs ?k__law_signs ?a__law_keywords ?l__law_keywords ?c__law_keywords ?k__law_keywords ?a__law_symbols ?l__law_symbols ?c__law_symbols ?k__law_symbols ?a__law_words ?l__law_words ?c__law_words ?k__law_words ?a_word_class ?l_word_class ?c_word_class ?k_word_class ?a__law_class ?l__law_class ?c__law_class ?k__law_class ?a__law_right ?l__law_right ?c__law_right ?k__law_right ?a_law ?l_law ?c_law ?k_law) (fun s v => .of_eq rfl)
    (case z_abs => k_is)
    (case z_all => k_is)
    (case z_bool => k_is)
    (case z_int => k_is)
    (case z_isinstance => k_is)
    (case z_len => k_is)
    (case z_list => k_is)
    (case z_max => k_is)
    (case z_range => k_is)
    (case z_str => k_is)
    (case g_KEYWORDS => k_is)
    (case lk_KEYWORDS => k_is)
    (case hv_KEYWORDS => exact ⟨by decide, by (repeat (first | exact .nil | refine .cons ⟨rfl, by decide⟩ ?_)), by (repeat (first | exact .nil | refine .cons ⟨_, congrArg (fun s => PySem.Value.str s _) (by decide +kernel)⟩ ?_))⟩)
    (case g_LEVELS => k_is)
    (case lk_LEVELS => k_is)
    (case kl_LEVELS => k_keys)
    (case sm_LEVELS => decide)
    (case nd_LEVELS => show List.Nodup (["|", "&", "==", "<", "+", "-", "*", "/"] : List Str); decide +kernel)
    (case ln_LEVELS => rfl)
    (case kn_LEVELS_0 => k_is)
    (case kt_LEVELS_0 => exact ⟨_, rfl⟩)
    (case kn_LEVELS_1 => k_is)
    (case kt_LEVELS_1 => exact ⟨_, rfl⟩)
    (case kn_LEVELS_2 => k_is)
    (case kt_LEVELS_2 => exact ⟨_, rfl⟩)
    (case kn_LEVELS_3 => k_is)
    (case kt_LEVELS_3 => exact ⟨_, rfl⟩)
    (case kn_LEVELS_4 => k_is)
    (case kt_LEVELS_4 => exact ⟨_, rfl⟩)
    (case kn_LEVELS_5 => k_is)
    (case kt_LEVELS_5 => exact ⟨_, rfl⟩)
    (case kn_LEVELS_6 => k_is)
    (case kt_LEVELS_6 => exact ⟨_, rfl⟩)
    (case kn_LEVELS_7 => k_is)
    (case kt_LEVELS_7 => exact ⟨_, rfl⟩)
    (case g_LETTERS => k_is)
    (case g_DIGITS => k_is)
    (case g_WORD_SIGNS => k_is)
    (case g_SYMBOLS => k_is)
    (case lk_SYMBOLS => k_is)
    (case hv_SYMBOLS => exact ⟨by decide, by (repeat (first | exact .nil | refine .cons ⟨rfl, by decide⟩ ?_)), by (repeat (first | exact .nil | refine .cons ⟨_, congrArg (fun s => PySem.Value.str s _) (by decide +kernel)⟩ ?_))⟩)
    (case g_NAME_SIGNS => k_is)
    (case g_NUMBER_DIGITS => k_is)
    (case a_is_name => k_is)
    (case l_is_name => k_is)
    (case c_is_name => k_is)
    (case k_is_name => k_is)
    (case a_is_number => k_is)
    (case l_is_number => k_is)
    (case c_is_number => k_is)
    (case k_is_number => k_is)
    (case a_split_words => k_is)
    (case l_split_words => k_is)
    (case c_split_words => k_is)
    (case k_split_words => k_is)
    (case a__law_draws => k_is)
    (case l__law_draws => k_is)
    (case c__law_draws => k_is)
    (case k__law_draws => k_is)
    (case a__law_take => k_is)
    (case l__law_take => k_is)
    (case c__law_take => k_is)
    (case k__law_take => k_is)
    (case a__law_signs => k_is)
    (case l__law_signs => k_is)
    (case c__law_signs => k_is)
    (case k__law_signs => k_is)
    (case a__law_keywords => k_is)
    (case l__law_keywords => k_is)
    (case c__law_keywords => k_is)
    (case k__law_keywords => k_is)
    (case a__law_symbols => k_is)
    (case l__law_symbols => k_is)
    (case c__law_symbols => k_is)
    (case k__law_symbols => k_is)
    (case a__law_words => k_is)
    (case l__law_words => k_is)
    (case c__law_words => k_is)
    (case k__law_words => k_is)
    (case a_word_class => k_is)
    (case l_word_class => k_is)
    (case c_word_class => k_is)
    (case k_word_class => k_is)
    (case a__law_class => k_is)
    (case l__law_class => k_is)
    (case c__law_class => k_is)
    (case k__law_class => k_is)
    (case a__law_right => k_is)
    (case l__law_right => k_is)
    (case c__law_right => k_is)
    (case k__law_right => k_is)
    (case a_law => k_is)
    (case l_law => k_is)
    (case c_law => k_is)
    (case k_law => k_is)
