import PyProof.Rows.All
import Wide.All
import OpenK.AllK
import Wide.FinOn
import HandS.ForMost
import HandS.Evl
import HandS.Flow
import HandS.IsInst
import HandS.TupAny
import HandS.Zip
import HandS.DictComp
import HandS.CallLocal
import HandS.Walk
import HandS.Defaults
import KE.SortData
import KE.GoesEnum
import HandS.Head0
import HandS.Head1
import HandS.Head2
import HandS.HeadEnd
import HandS.HeadHook1
import HandS.HeadHook2
import HandS.TupMul
import KE.KDictPairs
import PySem.Challenge.RW_halfring_k38_whole_windows_amid_lots
set_option Elab.async false
set_option linter.all false
set_option maxRecDepth 100000
set_option maxHeartbeats 4000000
/-! The layer of this proof: what stands at the names is told as plain data (PyData); the heap is spoken of here alone. -/
namespace HR
open PySem PySem.Spec PyProof.Rows L2 Evl

/-! ### the heap less some addresses -/
def er (L : List Addr) (H : Hp) : Hp := fun a => if a ∈ L then none else H a
theorem er_in {L : List Addr} {H : Hp} {a : Addr} (h : a ∈ L) : er L H a = none := if_pos h
theorem er_out {L : List Addr} {H : Hp} {a : Addr} (h : a ∉ L) : er L H a = H a := if_neg h
theorem er_some {L : List Addr} {H : Hp} {a : Addr} {o : HO} (h : er L H a = some o) : a ∉ L ∧ H a = some o := by
  by_cases m : a ∈ L
  · rw [er_in m] at h
    cases h
  · rw [er_out m] at h
    exact ⟨m, h⟩
theorem er_ex (L : List Addr) (H : Hp) : Ex (er L H) H := fun _ _ h => (er_some h).2
theorem er_mono {L : List Addr} {H H' : Hp} (e : Ex H H') : Ex (er L H) (er L H') := fun a o h => by
  obtain ⟨m, h1⟩ := er_some h
  rw [er_out m]
  exact e a o h1
theorem er_upd {L : List Addr} {H : Hp} {a : Addr} {o : HO} (h : a ∈ L) : er L (upd H a o) = er L H := by
  funext b
  by_cases m : b ∈ L
  · rw [er_in m, er_in m]
  · rw [er_out m, er_out m, upd_ne]
    intro e
    subst e
    exact m h
theorem er_cons {L : List Addr} {H : Hp} {a : Addr} (h : H a = none) : er (a :: L) H = er L H := by
  funext b
  by_cases m : b ∈ L
  · rw [er_in m, er_in (List.mem_cons_of_mem _ m)]
  · by_cases e : b = a
    · subst e
      rw [er_in List.mem_cons_self, er_out m, h]
    · rw [er_out m, er_out (by simp [e, m])]
theorem er_less {L M : List Addr} {H : Hp} (h : ∀ a ∈ M, a ∈ L) : Ex (er L H) (er M H) := fun a o e => by
  obtain ⟨m, e1⟩ := er_some e
  rw [er_out fun q => m (h a q)]
  exact e1
theorem er_nil (H : Hp) : er [] H = H := by
  funext b
  exact er_out (by simp)

/-! ### data stands -/
section
variable {K : PySem.W.Frag} {H H' : Hp}
mutual
theorem dp_mono (e : Ex H H') : ∀ (d : PyData) (v : V), Dp K H v d → Dp K H' v d
  | .none, _, h => by
    cases h
    exact .non
  | .bool b, _, h => by
    cases h
    exact .bl b
  | .int i, _, h => by
    cases h
    exact .int i
  | .str x, _, h => by
    cases h
    exact .str x
  | .list ds, _, h => by
    cases h with
    | lst hs ha => exact .lst (ex_l e hs) (dps_mono e ds _ ha)
  | .tuple ds, _, h => by
    cases h with
    | tup hs ha => exact .tup (ex_t e hs) (dps_mono e ds _ ha)
  | .dict _, _, h => by cases h
theorem dps_mono (e : Ex H H') : ∀ (ds : List PyData) (vs : List V), DpAll K H vs ds → DpAll K H' vs ds
  | [], _, h => by
    cases h
    exact .nil
  | d :: ds, _, h => by
    cases h with
    | cons h1 h2 => exact .cons (dp_mono e d _ h1) (dps_mono e ds _ h2)
end
theorem dps_len : ∀ {ds : List PyData} {vs : List V}, DpAll K H vs ds → vs.length = ds.length
  | [], _, h => by
    cases h
    rfl
  | d :: ds, _, h => by
    cases h with
    | cons h1 h2 => exact congrArg Nat.succ (dps_len h2)
theorem dps_get : ∀ {ds : List PyData} {vs : List V} {i : Nat} {d : PyData}, DpAll K H vs ds → ds[i]? = some d → ∃ v, vs[i]? = some v ∧ Dp K H v d
  | [], _, _, _, _, e => by simp at e
  | d :: ds, _, 0, _, h, e => by
    cases h with
    | cons h1 h2 =>
      cases Option.some.inj e
      exact ⟨_, rfl, h1⟩
  | d :: ds, _, i + 1, _, h, e => by
    cases h with
    | cons h1 h2 =>
      obtain ⟨v, e1, e2⟩ := dps_get (i := i) h2 e
      exact ⟨v, e1, e2⟩
theorem dps_at : ∀ {ds : List PyData} {vs : List V} {i : Nat} {v : V}, DpAll K H vs ds → vs[i]? = some v → ∃ d, ds[i]? = some d ∧ Dp K H v d
  | [], _, _, _, h, e => by
    cases h
    simp at e
  | d :: ds, _, 0, _, h, e => by
    cases h with
    | cons h1 h2 =>
      cases Option.some.inj e
      exact ⟨_, rfl, h1⟩
  | d :: ds, _, i + 1, _, h, e => by
    cases h with
    | cons h1 h2 =>
      obtain ⟨v, e1, e2⟩ := dps_at (i := i) h2 e
      exact ⟨v, e1, e2⟩
theorem dps_app : ∀ {ds es : List PyData} {vs us : List V}, DpAll K H vs ds → DpAll K H us es → DpAll K H (vs ++ us) (ds ++ es)
  | [], _, _, _, h, h' => by
    cases h
    exact h'
  | d :: ds, _, _, _, h, h' => by
    cases h with
    | cons h1 h2 => exact .cons h1 (dps_app h2 h')
theorem dps_drop : ∀ {ds : List PyData} {vs : List V} (n : Nat), DpAll K H vs ds → DpAll K H (vs.drop n) (ds.drop n)
  | _, _, 0, h => h
  | [], _, n + 1, h => by
    cases h
    exact .nil
  | d :: ds, _, n + 1, h => by
    cases h with
    | cons h1 h2 => exact dps_drop n h2
theorem dps_take : ∀ {ds : List PyData} {vs : List V} (n : Nat), DpAll K H vs ds → DpAll K H (vs.take n) (ds.take n)
  | _, _, 0, h => .nil
  | [], _, n + 1, h => by
    cases h
    exact .nil
  | d :: ds, _, n + 1, h => by
    cases h with
    | cons h1 h2 => exact .cons h1 (dps_take n h2)
/-- a slice of data -/
def cutD {α : Type} (xs : List α) (lo hi : Option Int) : List α := (xs.drop (HT.sIx xs.length 0 lo)).take (HT.sIx xs.length xs.length hi - HT.sIx xs.length 0 lo)
theorem dps_cut {ds : List PyData} {vs : List V} (h : DpAll K H vs ds) (lo hi : Option Int) : DpAll K H (cutV vs lo hi) (cutD ds lo hi) := by
  unfold cutV cutD
  rw [dps_len h]
  exact dps_take _ (dps_drop _ h)
theorem dps_ints : ∀ ns : List Int, DpAll K H (ns.map V.int) (ns.map PyData.int)
  | [] => .nil
  | n :: ns => .cons (.int n) (dps_ints ns)
theorem dps_bls : ∀ {bs : List Bool} {vs : List V}, DpAll K H vs (bs.map PyData.bool) → vs = bs.map V.bl
  | [], _, h => by
    cases h
    rfl
  | b :: bs, _, h => by
    cases h with
    | cons h1 h2 =>
      cases h1
      rw [dps_bls h2] <;> rfl
end

/-! ### what is known of the slots -/
inductive Ent where
  | no
  | dat (d : PyData)
  | lst (a : Addr) (ds : List PyData)
  | dk (a : Addr) (kvs : List (Key × PyData))
  | tin (a : Addr) (n : Nat)
  | fn (f : Addr)
  | fz (a : Addr) (kvs : List (Key × PyData))
  | rd (a : Addr) (kvs : List (Key × PyData))
abbrev Ctx := List Ent
abbrev KvD (K : PySem.W.Frag) (H : Hp) : List (Key × V) → List (Key × PyData) → Prop := Paired fun p q => p.1 = q.1 ∧ Dp K H p.2 q.2
/-- the source of draws -/
def TinAt (H : Hp) (a : Addr) (n : Nat) : Prop := ∃ x y c : Int, H a = some (.lst [.int x, .int y, .int c]) ∧ 0 ≤ x ∧ 0 ≤ y ∧ y < 4611686018427387904 ∧ 0 ≤ c ∧ c ≤ n
def EntOk (K : PySem.W.Frag) (L : List Addr) (H : Hp) (o : Option (Option V)) : Ent → Prop
  | .no => True
  | .dat d => ∃ v, o = some (some v) ∧ Dp K (er L H) v d
  | .lst a ds => ∃ vs, o = some (some (.ref a)) ∧ a ∈ L ∧ H a = some (.lst vs) ∧ DpAll K (er L H) vs ds
  | .dk a kvs => ∃ vs, o = some (some (.ref a)) ∧ a ∈ L ∧ H a = some (.dK vs) ∧ KvD K (er L H) vs kvs
  | .tin a n => o = some (some (.ref a)) ∧ a ∈ L ∧ TinAt H a n
  | .fn f => o = some (some (.ref f))
  | .fz a kvs => ∃ vs od, o = some (some (.ref a)) ∧ a ∈ L ∧ H a = some (.frz od (.dK vs)) ∧ KvD K (er L H) vs kvs
  | .rd a kvs => ∃ vs, o = some (some (.ref a)) ∧ Rd (er L H) a (.dK vs) ∧ KvD K (er L H) vs kvs
/-- M: what this def may have changed since H0; L: what may change at all, and is no part of the data -/
structure Env (K : PySem.W.Frag) (H0 : Hp) (M L : List Addr) (σ : L2.St) (H : Hp) (Γ : Ctx) : Prop where
  len : σ.length = Γ.length
  live : ∀ a ∈ L, ∃ o, H a = some o
  sub : ∀ a ∈ M, a ∈ L
  base : Ex H0 (er M H)
  ent : ∀ (i : Nat) (e : Ent), Γ[i]? = some e → EntOk K L H σ[i]? e
section
variable {K : PySem.W.Frag} {H0 H H' : Hp} {M L : List Addr} {σ : L2.St} {Γ : Ctx}
theorem kvd_mono (e : Ex H H') : ∀ {vs : List (Key × V)} {kvs : List (Key × PyData)}, KvD K H vs kvs → KvD K H' vs kvs
  | _, _, .nil => .nil
  | _, _, .cons h t => .cons ⟨h.1, dp_mono e _ _ h.2⟩ (kvd_mono e t)
theorem EntOk.mono (e : Ex H H') {o : Option (Option V)} : ∀ {x : Ent}, EntOk K L H o x → EntOk K L H' o x
  | .no, _ => trivial
  | .dat d, ⟨v, h1, h2⟩ => ⟨v, h1, dp_mono (er_mono e) d v h2⟩
  | .lst _ ds, ⟨vs, h1, h2, h3, h4⟩ => ⟨vs, h1, h2, e _ _ h3, dps_mono (er_mono e) ds vs h4⟩
  | .dk _ kvs, ⟨vs, h1, h2, h3, h4⟩ => ⟨vs, h1, h2, e _ _ h3, kvd_mono (er_mono e) h4⟩
  | .tin _ n, ⟨h1, h2, x, y, c, h3, h4⟩ => ⟨h1, h2, x, y, c, e _ _ h3, h4⟩
  | .fn f, h => h
  | .fz _ _, ⟨vs, od, h1, h2, h3, h4⟩ => ⟨vs, od, h1, h2, e _ _ h3, kvd_mono (er_mono e) h4⟩
  | .rd _ _, ⟨vs, h1, h3, h4⟩ => ⟨vs, h1, ex_rd (er_mono e) h3, kvd_mono (er_mono e) h4⟩
theorem Env.mono (E : Env K H0 M L σ H Γ) (e : Ex H H') : Env K H0 M L σ H' Γ where
  len := E.len
  live := fun a ha => let ⟨o, h⟩ := E.live a ha; ⟨o, e a o h⟩
  sub := E.sub
  base := E.base.trans (er_mono e)
  ent := fun i x hx => (E.ent i x hx).mono e
theorem Env.fresh (E : Env K H0 M L σ H Γ) {p : Addr} (h : H p = none) : p ∉ L := fun m => by
  obtain ⟨o, e⟩ := E.live p m
  rw [h] at e
  cases e
theorem Env.put (E : Env K H0 M L σ H Γ) {i : Nat} (hi : i < Γ.length) {v : V} {x : Ent} (h : EntOk K L H (some (some v)) x) : Env K H0 M L (σ.set i (some v)) H (Γ.set i x) where
  len := by rw [List.length_set, List.length_set, E.len]
  live := E.live
  sub := E.sub
  base := E.base
  ent := fun j e hj => by
    by_cases q : i = j
    · subst q
      rw [List.getElem?_set_self hi] at hj
      rw [List.getElem?_set_self (by rw [E.len]; exact hi)]
      cases Option.some.inj hj
      exact h
    · rw [List.getElem?_set_ne q] at hj
      rw [List.getElem?_set_ne q]
      exact E.ent j e hj
theorem Env.set (E : Env K H0 M L σ H Γ) {i : Nat} (hi : i < Γ.length) {v : V} {d : PyData} (h : Dp K (er L H) v d) : Env K H0 M L (σ.set i (some v)) H (Γ.set i (.dat d)) := E.put hi ⟨v, rfl, h⟩
/-- less is known -/
theorem Env.weak (E : Env K H0 M L σ H Γ) {Γ' : Ctx} (hl : Γ'.length = Γ.length) (h : ∀ (i : Nat) (e : Ent), Γ'[i]? = some e → e = .no ∨ Γ[i]? = some e) : Env K H0 M L σ H Γ' where
  len := by rw [E.len, hl]
  live := E.live
  sub := E.sub
  base := E.base
  ent := fun i e he => by
    rcases h i e he with q | q
    · subst q
      trivial
    · exact E.ent i e q
/-- the slots of a block's own names forgotten -/
def wipeC (Γ : Ctx) : List Nat → Ctx
  | [] => Γ
  | v :: vs => (wipeC Γ vs).set v .no
theorem wipeC_len (Γ : Ctx) : ∀ vs : List Nat, (wipeC Γ vs).length = Γ.length
  | [] => rfl
  | v :: vs => by
    show ((wipeC Γ vs).set v .no).length = _
    rw [List.length_set, wipeC_len Γ vs]
theorem Env.drop (E : Env K H0 M L σ H Γ) (i : Nat) (z : Option V) : Env K H0 M L (σ.set i z) H (Γ.set i .no) where
  len := by rw [List.length_set, List.length_set, E.len]
  live := E.live
  sub := E.sub
  base := E.base
  ent := fun j e hj => by
    by_cases q : i = j
    · subst q
      by_cases hi : i < Γ.length
      · rw [List.getElem?_set_self hi] at hj
        cases Option.some.inj hj
        trivial
      · rw [List.getElem?_eq_none (by rw [List.length_set]; omega)] at hj
        cases hj
    · rw [List.getElem?_set_ne q] at hj
      rw [List.getElem?_set_ne q]
      exact E.ent j e hj
theorem Env.wipe (E : Env K H0 M L σ H Γ) : ∀ vs : List Nat, Env K H0 M L (L2.wipe σ vs) H (wipeC Γ vs)
  | [] => E
  | v :: vs => (Env.wipe E vs).drop v none
/-- a new object that is not looked at changes nothing; one that is mutable is left out -/
theorem Env.more (E : Env K H0 M L σ H Γ) {p : Addr} {o : HO} (h : H p = none) : Env K H0 (p :: M) (p :: L) σ (upd H p o) Γ := by
  have hp := E.fresh h
  have e1 : er (p :: L) (upd H p o) = er L H := by
    rw [er_upd List.mem_cons_self, er_cons h]
  have ne : ∀ {a : Addr} {u : HO}, H a = some u → upd H p o a = some u := fun {a u} q => by
    rw [upd_ne (ne_of_none q h)]
    exact q
  have e0 : er (p :: M) (upd H p o) = er M H := by
    rw [er_upd List.mem_cons_self, er_cons h]
  refine ⟨E.len, fun a ha => ?_, fun a ha => ?_, by rw [e0]; exact E.base, fun i x hx => ?_⟩
  · rcases List.mem_cons.mp ha with q | q
    · rw [q]
      exact ⟨o, upd_same⟩
    · obtain ⟨u, hu⟩ := E.live a q
      exact ⟨u, ne hu⟩
  · rcases List.mem_cons.mp ha with q | q
    · exact List.mem_cons.mpr (.inl q)
    · exact List.mem_cons_of_mem _ (E.sub a q)
  · have k := E.ent i x hx
    cases x with
    | no => trivial
    | dat d =>
      obtain ⟨v, h1, h2⟩ := k
      exact ⟨v, h1, by rw [e1]; exact h2⟩
    | lst a ds =>
      obtain ⟨vs, h1, h2, h3, h4⟩ := k
      exact ⟨vs, h1, List.mem_cons_of_mem _ h2, ne h3, by rw [e1]; exact h4⟩
    | dk a kvs =>
      obtain ⟨vs, h1, h2, h3, h4⟩ := k
      exact ⟨vs, h1, List.mem_cons_of_mem _ h2, ne h3, by rw [e1]; exact h4⟩
    | tin a n =>
      obtain ⟨h1, h2, x, y, c, h3, h4⟩ := k
      exact ⟨h1, List.mem_cons_of_mem _ h2, x, y, c, ne h3, h4⟩
    | fn f => exact k
    | fz a kvs =>
      obtain ⟨vs, od, h1, h2, h3, h4⟩ := k
      exact ⟨vs, od, h1, List.mem_cons_of_mem _ h2, ne h3, by rw [e1]; exact h4⟩
    | rd a kvs =>
      obtain ⟨vs, h1, h3, h4⟩ := k
      exact ⟨vs, h1, by rw [e1]; exact h3, by rw [e1]; exact h4⟩
end

/-! ### what an expression gives -/
section
variable (K : PySem.W.Frag)
def EG (te : TE) (Γ : Ctx) (d : PyData) : Prop := ∀ (H0 : Hp) (M L : List Addr) (σ : L2.St) (H : Hp), Env K H0 M L σ H Γ → ∀ Q : VK, (∀ v H', Ex H H' → Dp K (er L H') v d → Q v H') → te σ H Q
def QG (tt : TT) (Γ : Ctx) (b : Bool) : Prop := ∀ (H0 : Hp) (M L : List Addr) (σ : L2.St) (H : Hp), Env K H0 M L σ H Γ → ∀ Q : Bool → Hp → Prop, (∀ H', Ex H H' → Q b H') → tt σ H Q
def AG (ta : TA) (Γ : Ctx) (ds : List PyData) : Prop := ∀ (H0 : Hp) (M L : List Addr) (σ : L2.St) (H : Hp), Env K H0 M L σ H Γ → ∀ Q : List V → Hp → Prop, (∀ vs H', Ex H H' → DpAll K (er L H') vs ds → Q vs H') → ta σ H Q
def OG (to : TO) (Γ : Ctx) (o : Option Int) : Prop := ∀ (H0 : Hp) (M L : List Addr) (σ : L2.St) (H : Hp), Env K H0 M L σ H Γ → ∀ Q : Option Int → Hp → Prop, (∀ H', Ex H H' → Q o H') → to σ H Q
/-- a block that returns -/
def BG (ts : TS) (Γ : Ctx) (d : PyData) : Prop := ∀ (H0 : Hp) (M L : List Addr) (σ : L2.St) (H : Hp) (D : Ends), Env K H0 M L σ H Γ → (∀ v H', Ex H H' → Dp K (er L H') v d → D.rt v H') → ts D σ H
/-- a promise of plain data -/
def spD (P : List PyData → PyData → Prop) : Sp := fun vs H Q _ => ∃ L ds d, (∀ a ∈ L, ∃ o, H a = some o) ∧ DpAll K (er L H) vs ds ∧ P ds d ∧ ∀ v H', Ex H H' → Dp K (er L H') v d → Q v H'
end
section
variable {K : PySem.W.Frag} {Γ : Ctx} {ta tb te tc : TE} {t u : TT} {d d' : PyData} {ds es : List PyData} {b : Bool}
theorem eg_is {d' : PyData} (h : EG K te Γ d) (e : d = d') : EG K te Γ d' := e ▸ h
theorem tg_is {b' : Bool} (h : QG K t Γ b) (e : b = b') : QG K t Γ b' := e ▸ h
theorem eg_var {i : Nat} (h : Γ[i]? = some (.dat d)) : EG K (tVar i) Γ d := fun H0 M L σ H E Q q => by
  obtain ⟨v, h1, h2⟩ := E.ent i _ h
  exact ⟨v, h1, q v H (Ex.refl H) h2⟩
theorem eg_int {n : Int} : EG K (tC (.int n)) Γ (.int n) := fun _ _ _ _ H _ _ q => q _ H (Ex.refl H) (.int n)
theorem eg_str {x : Str} : EG K (tC (.str x)) Γ (.str x) := fun _ _ _ _ H _ _ q => q _ H (Ex.refl H) (.str x)
theorem eg_bl {x : Bool} : EG K (tC (.bl x)) Γ (.bool x) := fun _ _ _ _ H _ _ q => q _ H (Ex.refl H) (.bl x)
theorem eg_non : EG K (tC .non) Γ .none := fun _ _ _ _ H _ _ q => q _ H (Ex.refl H) .non
theorem ag_nil : AG K tNil Γ [] := fun _ _ _ _ H _ _ q => q _ H (Ex.refl H) .nil
theorem ag_cons {tr : TA} (h : EG K te Γ d) (hr : AG K tr Γ ds) : AG K (tCons te tr) Γ (d :: ds) := fun H0 M L σ H E Q q =>
  h H0 M L σ H E _ fun v H1 e1 h1 => hr H0 M L σ H1 (E.mono e1) _ fun vs H2 e2 h2 => q _ H2 (e1.trans e2) (.cons (dp_mono (er_mono e2) _ _ h1) h2)
theorem og_none : OG K tNoPart Γ none := fun _ _ _ _ H _ _ q => q H (Ex.refl H)
theorem og_some {i : Int} (h : EG K te Γ (.int i)) : OG K (tPart te) Γ (some i) := fun H0 M L σ H E Q q => h H0 M L σ H E _ fun v H1 e1 h1 => by
  cases h1
  exact ⟨i, rfl, q H1 e1⟩
/-- a new tuple, a new list -/
theorem eg_tup {tl : TA} (h : AG K tl Γ ds) (hl : ds.length ≤ 1000 := by exact Nat.le_of_ble_eq_true rfl) : EG K (tTup tl) Γ (.tuple ds) := fun H0 M L σ H E Q q =>
  h H0 M L σ H E _ fun vs H1 e1 h1 => ⟨by rw [dps_len h1]; exact sz_of (Nat.le_trans hl (by decide)), fun p hp => by
    have np := (E.mono e1).fresh hp
    have e2 := Ex.new (o := .tup vs) hp
    refine q _ _ (e1.trans e2) (.tup (.inl (.inl ?_)) (dps_mono (er_mono e2) _ _ h1))
    rw [er_out np]
    exact upd_same⟩
theorem eg_lst {tl : TA} (h : AG K tl Γ ds) (hl : ds.length ≤ 1000 := by exact Nat.le_of_ble_eq_true rfl) : EG K (tLst tl) Γ (.list ds) := fun H0 M L σ H E Q q =>
  h H0 M L σ H E _ fun vs H1 e1 h1 => ⟨by rw [dps_len h1]; exact sz_of (Nat.le_trans hl (by decide)), fun p hp => by
    have np := (E.mono e1).fresh hp
    have e2 := Ex.new (o := .lst vs) hp
    refine q _ _ (e1.trans e2) (.lst (.inl (.inl ?_)) (dps_mono (er_mono e2) _ _ h1))
    rw [er_out np]
    exact upd_same⟩
/-- two ints -/
theorem eg_I0 {g : Int → Int → V} {i j : Int} (ha : EG K ta Γ (.int i)) (hb : EG K tb Γ (.int j)) (hg : ∀ H, Dp K H (g i j) d) : EG K (tOp (rI0 g) ta tb) Γ d := fun H0 M L σ H E Q q =>
  ha H0 M L σ H E _ fun v H1 e1 h1 => hb H0 M L σ H1 (E.mono e1) _ fun w H2 e2 h2 => by
    cases h1
    cases h2
    exact ⟨i, j, rfl, rfl, q _ H2 (e1.trans e2) (hg _)⟩
theorem eg_II {g : Int → Int → Int} {i j : Int} (ha : EG K ta Γ (.int i)) (hb : EG K tb Γ (.int j)) : EG K (tOp (rI0 fun a b => .int (g a b)) ta tb) Γ (.int (g i j)) := eg_I0 ha hb fun _ => .int _
theorem eg_IB {g : Int → Int → Bool} {i j : Int} (ha : EG K ta Γ (.int i)) (hb : EG K tb Γ (.int j)) : EG K (tOp (rI0 fun a b => .bl (g a b)) ta tb) Γ (.bool (g i j)) := eg_I0 ha hb fun _ => .bl _
theorem eg_IC {C : Int → Int → Prop} {g : Int → Int → Int} {i j : Int} (ha : EG K ta Γ (.int i)) (hb : EG K tb Γ (.int j)) (hc : C i j) : EG K (tOp (rI C fun a b => .int (g a b)) ta tb) Γ (.int (g i j)) := fun H0 M L σ H E Q q =>
  ha H0 M L σ H E _ fun v H1 e1 h1 => hb H0 M L σ H1 (E.mono e1) _ fun w H2 e2 h2 => by
    cases h1
    cases h2
    exact ⟨i, j, rfl, rfl, hc, q _ H2 (e1.trans e2) (.int _)⟩
/-- a one-place operator of an int -/
theorem eg_U {g : Int → Int} {i : Int} (ha : EG K ta Γ (.int i)) : EG K (tUn (rU fun a => .int (g a)) ta) Γ (.int (g i)) := fun H0 M L σ H E Q q =>
  ha H0 M L σ H E _ fun v H1 e1 h1 => by
    cases h1
    exact ⟨i, rfl, q _ H1 e1 (.int _)⟩
/-- == and != of data -/
theorem eg_eq (ha : EG K ta Γ d) (hb : EG K tb Γ d') (s : SeqAt.shaped d = true := by rfl) (s' : SeqAt.shaped d' = true := by rfl) : EG K (tOp (rEqD K) ta tb) Γ (.bool (PyData.eqv d d')) := fun H0 M L σ H E Q q =>
  ha H0 M L σ H E _ fun v H1 e1 h1 => hb H0 M L σ H1 (E.mono e1) _ fun w H2 e2 h2 =>
    ⟨d, d', dp_mono ((er_mono e2).trans (er_ex L H2)) _ _ h1, dp_mono (er_ex L H2) _ _ h2, s, s', q _ H2 (e1.trans e2) (.bl _)⟩
theorem eg_ne (ha : EG K ta Γ d) (hb : EG K tb Γ d') (s : SeqAt.shaped d = true := by rfl) (s' : SeqAt.shaped d' = true := by rfl) : EG K (tOp (rNeD K) ta tb) Γ (.bool (!PyData.eqv d d')) := fun H0 M L σ H E Q q =>
  ha H0 M L σ H E _ fun v H1 e1 h1 => hb H0 M L σ H1 (E.mono e1) _ fun w H2 e2 h2 =>
    ⟨d, d', dp_mono ((er_mono e2).trans (er_ex L H2)) _ _ h1, dp_mono (er_ex L H2) _ _ h2, s, s', q _ H2 (e1.trans e2) (.bl _)⟩
/-- t[i] -/
theorem atI_dp {H : Hp} {vs : List V} {i : Int} (h : DpAll K H vs ds) (e : atI ds i = some d) : ∃ v, atI vs i = some v ∧ Dp K H v d := by
  unfold atI at e
  cases hn : ixN ds.length i with
  | none =>
    rw [hn] at e
    cases e
  | some j =>
    rw [hn] at e
    obtain ⟨v, e1, e2⟩ := dps_get h (show ds[j]? = some d from e)
    refine ⟨v, ?_, e2⟩
    unfold atI
    rw [dps_len h, hn]
    exact e1
theorem eg_ixT {i : Int} (ha : EG K ta Γ (.tuple ds)) (hb : EG K tb Γ (.int i)) (hi : atI ds i = some d) : EG K (tOp (rIxT K) ta tb) Γ d := fun H0 M L σ H E Q q =>
  ha H0 M L σ H E _ fun v H1 e1 h1 => hb H0 M L σ H1 (E.mono e1) _ fun w H2 e2 h2 => by
    cases h1 with
    | tup hs hv =>
      cases h2
      obtain ⟨x, a1, a2⟩ := atI_dp hv hi
      exact ⟨_, _, i, x, rfl, rfl, ex_t (e2) (ex_t (er_ex L H1) hs), a1, q x H2 (e1.trans e2) (dp_mono (er_mono e2) _ _ a2)⟩
theorem eg_ixL {i : Int} (ha : EG K ta Γ (.list ds)) (hb : EG K tb Γ (.int i)) (hi : atI ds i = some d) : EG K (tOp (rIxL K) ta tb) Γ d := fun H0 M L σ H E Q q =>
  ha H0 M L σ H E _ fun v H1 e1 h1 => hb H0 M L σ H1 (E.mono e1) _ fun w H2 e2 h2 => by
    cases h1 with
    | lst hs hv =>
      cases h2
      obtain ⟨x, a1, a2⟩ := atI_dp hv hi
      exact ⟨_, _, i, x, rfl, rfl, ex_l (e2) (ex_l (er_ex L H1) hs), a1, q x H2 (e1.trans e2) (dp_mono (er_mono e2) _ _ a2)⟩
/-- t[lo:hi] -/
theorem cutV_whole {xs : List V} {lo hi : Option Int} (h : HT.sIx xs.length 0 lo = 0 ∧ HT.sIx xs.length xs.length hi = xs.length) : cutV xs lo hi = xs := by
  unfold cutV
  rw [h.1, h.2]
  show (xs.take (xs.length - 0)) = xs
  rw [Nat.sub_zero]
  exact List.take_length
theorem eg_slT {tl th : TO} {lo hi : Option Int} (ha : EG K ta Γ (.tuple ds)) (hl : OG K tl Γ lo) (hh : OG K th Γ hi) : EG K (tSl (rSlA K) ta tl th) Γ (.tuple (cutD ds lo hi)) := fun H0 M L σ H E Q q =>
  ha H0 M L σ H E _ fun v H1 e1 h1 => hl H0 M L σ H1 (E.mono e1) _ fun H2 e2 => hh H0 M L σ H2 (E.mono (e1.trans e2)) _ fun H3 e3 => by
    cases h1 with
    | @tup a xs _ hs hv =>
      have e13 := e2.trans e3
      have hv3 := dps_mono (er_mono (L := L) e13) _ _ hv
      refine ⟨_, _, rfl, ex_t e13 (ex_t (er_ex L H1) hs), fun hw => ?_, fun _ p hp => ?_⟩
      · refine q _ H3 (e1.trans e13) (.tup (ex_t (er_mono e13) hs) ?_)
        have := dps_cut hv3 lo hi
        rw [cutV_whole hw] at this
        exact this
      · have np := (E.mono (e1.trans e13)).fresh hp
        have e4 := Ex.new (o := .tup (cutV xs lo hi)) hp
        refine q _ _ ((e1.trans e13).trans e4) (.tup (.inl (.inl ?_)) (dps_mono (er_mono e4) _ _ (dps_cut hv3 lo hi)))
        rw [er_out np]
        exact upd_same
theorem eg_slL {tl th : TO} {lo hi : Option Int} (ha : EG K ta Γ (.list ds)) (hl : OG K tl Γ lo) (hh : OG K th Γ hi) : EG K (tSl (rSlL K) ta tl th) Γ (.list (cutD ds lo hi)) := fun H0 M L σ H E Q q =>
  ha H0 M L σ H E _ fun v H1 e1 h1 => hl H0 M L σ H1 (E.mono e1) _ fun H2 e2 => hh H0 M L σ H2 (E.mono (e1.trans e2)) _ fun H3 e3 => by
    cases h1 with
    | @lst a xs _ hs hv =>
      have e13 := e2.trans e3
      have hv3 := dps_mono (er_mono (L := L) e13) _ _ hv
      refine ⟨_, _, rfl, ex_l e13 (ex_l (er_ex L H1) hs), fun p hp => ?_⟩
      have np := (E.mono (e1.trans e13)).fresh hp
      have e4 := Ex.new (o := .lst (cutV xs lo hi)) hp
      refine q _ _ ((e1.trans e13).trans e4) (.lst (.inl (.inl ?_)) (dps_mono (er_mono e4) _ _ (dps_cut hv3 lo hi)))
      rw [er_out np]
      exact upd_same
/-- t + u, tuples -/
theorem eg_catT (ha : EG K ta Γ (.tuple ds)) (hb : EG K tb Γ (.tuple es)) (hz : ds.length + es.length ≤ 1000) : EG K (tOp (rCatA K) ta tb) Γ (.tuple (ds ++ es)) := fun H0 M L σ H E Q q =>
  ha H0 M L σ H E _ fun v H1 e1 h1 => hb H0 M L σ H1 (E.mono e1) _ fun w H2 e2 h2 => by
    have h1' := dp_mono (er_mono (L := L) e2) _ _ h1
    cases h1' with
    | @tup a xs _ hs hv =>
      cases h2 with
      | @tup c ys _ hs2 hv2 =>
        have l1 := dps_len hv
        have l2 := dps_len hv2
        refine ⟨_, _, _, _, rfl, rfl, ex_t (er_ex L H2) hs, ex_t (er_ex L H2) hs2, by rw [l1, l2]; exact sz_of (Nat.le_trans hz (by decide)), fun hx => ?_, fun _ hy => ?_, fun _ _ p hp => ?_⟩
        · refine q _ H2 (e1.trans e2) (.tup hs2 ?_)
          have := dps_app hv hv2
          rw [hx] at this
          exact this
        · refine q _ H2 (e1.trans e2) (.tup hs ?_)
          have := dps_app hv hv2
          rw [hy, List.append_nil] at this
          exact this
        · have np := (E.mono (e1.trans e2)).fresh hp
          have e4 := Ex.new (o := .tup (xs ++ ys)) hp
          refine q _ _ ((e1.trans e2).trans e4) (.tup (.inl (.inl ?_)) (dps_mono (er_mono e4) _ _ (dps_app hv hv2)))
          rw [er_out np]
          exact upd_same
/-- truth values -/
theorem eg_and {x y : Bool} (ha : EG K ta Γ (.bool x)) (hb : x = true → EG K tb Γ (.bool y)) : EG K (tAndV ta tb) Γ (.bool (x && y)) := fun H0 M L σ H E Q q => ha H0 M L σ H E _ fun v H1 e1 h1 => by
  cases h1
  refine ⟨x, rfl, ?_⟩
  cases x with
  | true =>
    rw [if_pos rfl]
    exact hb rfl H0 M L σ H1 (E.mono e1) Q fun w H2 e2 h2 => q w H2 (e1.trans e2) h2
  | false =>
    rw [if_neg Bool.false_ne_true]
    exact q _ H1 e1 (.bl _)
theorem eg_or {x y : Bool} (ha : EG K ta Γ (.bool x)) (hb : x = false → EG K tb Γ (.bool y)) : EG K (tOrV ta tb) Γ (.bool (x || y)) := fun H0 M L σ H E Q q => ha H0 M L σ H E _ fun v H1 e1 h1 => by
  cases h1
  refine ⟨x, rfl, ?_⟩
  cases x with
  | true =>
    rw [if_pos rfl]
    exact q _ H1 e1 (.bl _)
  | false =>
    rw [if_neg Bool.false_ne_true]
    exact hb rfl H0 M L σ H1 (E.mono e1) Q fun w H2 e2 h2 => q w H2 (e1.trans e2) h2
theorem eg_not {x : Bool} (ha : EG K ta Γ (.bool x)) : EG K (tNotV ta) Γ (.bool (!x)) := fun H0 M L σ H E Q q => ha H0 M L σ H E _ fun v H1 e1 h1 => by
  cases h1
  exact ⟨x, rfl, q _ H1 e1 (.bl _)⟩
theorem eg_if (h : QG K t Γ b) (h1 : b = true → EG K ta Γ d) (h2 : b = false → EG K tb Γ d) : EG K (tIf t ta tb) Γ d := fun H0 M L σ H E Q q => h H0 M L σ H E _ fun H1 e1 => by
  cases b with
  | true =>
    rw [if_pos rfl]
    exact h1 rfl H0 M L σ H1 (E.mono e1) Q fun w H2 e2 h2 => q w H2 (e1.trans e2) h2
  | false =>
    rw [if_neg Bool.false_ne_true]
    exact h2 rfl H0 M L σ H1 (E.mono e1) Q fun w H2 e2 h2 => q w H2 (e1.trans e2) h2
/-- tests -/
theorem tg_B (h : EG K te Γ (.bool b)) : QG K (tB te) Γ b := fun H0 M L σ H E Q q => h H0 M L σ H E _ fun v H1 e1 h1 => by
  cases h1
  exact ⟨b, rfl, q H1 e1⟩
theorem tg_T (h : EG K te Γ (.bool b)) : QG K (tTest te) Γ b := fun H0 M L σ H E Q q => h H0 M L σ H E _ fun v H1 e1 h1 => by
  cases h1
  exact ⟨b, rfl, q H1 e1⟩
theorem tg_not (h : QG K t Γ b) : QG K (tNot t) Γ (!b) := fun H0 M L σ H E Q q => h H0 M L σ H E _ fun H1 e1 => q H1 e1
theorem tg_and {x y : Bool} (h1 : QG K t Γ x) (h2 : x = true → QG K u Γ y) : QG K (tAnd t u) Γ (x && y) := fun H0 M L σ H E Q q => h1 H0 M L σ H E _ fun H1 e1 => by
  cases x with
  | true =>
    rw [if_pos rfl]
    exact h2 rfl H0 M L σ H1 (E.mono e1) Q fun H2 e2 => q H2 (e1.trans e2)
  | false =>
    rw [if_neg Bool.false_ne_true]
    exact q H1 e1
theorem tg_or {x y : Bool} (h1 : QG K t Γ x) (h2 : x = false → QG K u Γ y) : QG K (tOr t u) Γ (x || y) := fun H0 M L σ H E Q q => h1 H0 M L σ H E _ fun H1 e1 => by
  cases x with
  | true =>
    rw [if_pos rfl]
    exact q H1 e1
  | false =>
    rw [if_neg Bool.false_ne_true]
    exact h2 rfl H0 M L σ H1 (E.mono e1) Q fun H2 e2 => q H2 (e1.trans e2)
theorem tg_yes : QG K tYes Γ true := fun _ _ _ _ H _ _ q => q H (Ex.refl H)
/-- a call by a promise of plain data -/
theorem eg_call {P : List PyData → PyData → Prop} {tl : TA} {X : XK} (h : AG K tl Γ ds) (hp : P ds d) : EG K (tCall (spD K P) [] X tl) Γ d := fun H0 M L σ H E Q q =>
  h H0 M L σ H E _ fun vs H1 e1 h1 => ⟨L, ds, d, (E.mono e1).live, by rw [List.append_nil]; exact h1, hp, fun v H2 e2 h2 => q v H2 (e1.trans e2) h2⟩
/-! ### blocks -/
variable {ts tz tw : TS}
theorem bg_ret (h : EG K te Γ d) : BG K (tRet te) Γ d := fun H0 M L σ H D E q => h H0 M L σ H E _ fun v H1 e1 h1 => q v H1 e1 h1
theorem bg_asg {i : Nat} (h : EG K te Γ d) (k : BG K tz (Γ.set i (.dat d)) d') (hi : i < Γ.length := by exact Nat.le_of_ble_eq_true rfl) : BG K (tSeq (tAsg te (gName i)) tz) Γ d' := fun H0 M L σ H D E q =>
  h H0 M L σ H E _ fun v H1 e1 h1 => k H0 M L _ H1 D ((E.mono e1).set hi h1) fun w H2 e2 h2 => q w H2 (e1.trans e2) h2
theorem bg_if (h : QG K t Γ b) (h1 : b = true → BG K ts Γ d) (h2 : b = false → BG K tz Γ d) : BG K (tSeq (tIfS t ts tNext) tz) Γ d := fun H0 M L σ H D E q => h H0 M L σ H E _ fun H1 e1 => by
  cases b with
  | true =>
    rw [if_pos rfl]
    exact h1 rfl H0 M L σ H1 _ (E.mono e1) fun w H2 e2 h2 => q w H2 (e1.trans e2) h2
  | false =>
    rw [if_neg Bool.false_ne_true]
    exact h2 rfl H0 M L σ H1 D (E.mono e1) fun w H2 e2 h2 => q w H2 (e1.trans e2) h2
theorem env_start {H : Hp} {L : List Addr} {N : List Str} {vs : List V} {ds : List PyData} (hl : ∀ a ∈ L, ∃ o, H a = some o) (h : DpAll K (er L H) vs ds) : Env K H [] L (L2.start N vs) H (ds.map Ent.dat ++ List.replicate (N.length - ds.length) Ent.no) where
  len := by
    unfold L2.start
    rw [List.length_append, List.length_append, List.length_map, List.length_map, List.length_replicate, List.length_replicate, dps_len h]
  live := hl
  sub := fun a ha => by cases ha
  base := by
    rw [er_nil]
    exact Ex.refl H
  ent := fun i e he => by
    by_cases q : i < ds.length
    · rw [List.getElem?_append_left (by rw [List.length_map]; exact q), List.getElem?_map, List.getElem?_eq_getElem q] at he
      cases Option.some.inj he
      obtain ⟨v, h1, h2⟩ := dps_get h (List.getElem?_eq_getElem q)
      refine ⟨v, ?_, h2⟩
      unfold L2.start
      rw [List.getElem?_append_left (by rw [List.length_map, dps_len h]; exact q), List.getElem?_map, h1]
      rfl
    · rw [List.getElem?_append_right (by rw [List.length_map]; omega)] at he
      have := List.mem_of_getElem? he
      rw [List.eq_of_mem_replicate this]
      trivial
end

/-! ### defs -/
section
variable {P : Program} {w : World} {K : PySem.W.Frag} {mg : Str → Option Value} {base : Heap}
/-- the def that the module's name x stands for keeps the promise -/
structure Ok (P : Program) (w : World) (K : PySem.W.Frag) (mg : Str → Option Value) (base : Heap) (k : Nat) (x : Str) (ps : List Str) (sp : Sp) : Prop where
  ex : ∃ (f : Addr) (fd : FuncData), FnOk P w K mg base CX0 k f fd ps sp ∧ mg x = some (.ref f) ∧ PySem.W.keepIn K (.ref f) = true ∧ Binds K fd ps [] ∧ ∃ (oc : Value) (od : Option Addr) (osl : Array (Option Value)), K.lookup f = some ⟨oc, od, .func fd, osl⟩
theorem Ok.mono {j k : Nat} {x : Str} {ps : List Str} {sp : Sp} (O : Ok P w K mg base j x ps sp) (h : j ≤ k) : Ok P w K mg base k x ps sp := by
  obtain ⟨f, fd, F, r⟩ := O.ex
  exact ⟨f, fd, F.mono h, r⟩
end
section
variable {X : Cx} {k : Nat} {x : Str} {ps : List Str} {sp : Sp} {p pos : Pos} {e : Expr} {es : List Expr} {t : TA}
theorem pe_cal (O : Ok X.prog X.w X.K X.mg X.base k x ps sp) (hr : Room k X.A) (ha : PA X (e :: es) t) (hg : Gl X x := by rfl) (hdb : (x == ("__debug__" : Str)) = false := by decide)
    (he : starEach (e :: es) X.env = (false, eval e X.env) :: starEach es X.env := by rfl) (hpl : (backTo pos (starEach es X.env)).any (·.1) = false := by rfl) : PE X (.Call (.Name x p) (e :: es) [] pos) (tCall sp [] E0 t) := by
  obtain ⟨f, fd, F, hm, hk, hb, _⟩ := O.ex
  exact pe_call F hr hg hm hk hb .nil pass0 ha hdb he hpl
theorem pe_cal0 (O : Ok X.prog X.w X.K X.mg X.base k x ps sp) (hr : Room k X.A) (hg : Gl X x := by rfl) (hdb : (x == ("__debug__" : Str)) = false := by decide) : PE X (.Call (.Name x p) [] [] pos) (tCall sp [] E0 tNil) := by
  obtain ⟨f, fd, F, hm, hk, hb, _⟩ := O.ex
  exact pe_call0 F hr hg hm hk hb .nil pass0 hdb
end
end HR

set_option Elab.async false
set_option linter.all false
set_option maxRecDepth 100000
set_option maxHeartbeats 4000000
namespace HR
open PySem PySem.Spec PyProof.Rows L2 Evl

/-! ### built-ins -/
section
variable {K : PySem.W.Frag} {Γ : Ctx} {ta tb te tc : TE} {t u : TT} {d d' : PyData} {ds es : List PyData} {b : Bool}
theorem eg_lenT (h : EG K ta Γ (.tuple ds)) : EG K (tCB (rLenS K) (tCons ta tNil)) Γ (.int (ds.length : Int)) := fun H0 M L σ H E Q q => h H0 M L σ H E _ fun v H1 e1 h1 => by
  cases h1 with
  | tup hs hv => exact ⟨_, _, rfl, .inr (ex_t (er_ex L H1) hs), by rw [dps_len hv]; exact q _ H1 e1 (.int _)⟩
theorem eg_lenL (h : EG K ta Γ (.list ds)) : EG K (tCB (rLenS K) (tCons ta tNil)) Γ (.int (ds.length : Int)) := fun H0 M L σ H E Q q => h H0 M L σ H E _ fun v H1 e1 h1 => by
  cases h1 with
  | lst hs hv => exact ⟨_, _, rfl, .inl (ex_l (er_ex L H1) hs), by rw [dps_len hv]; exact q _ H1 e1 (.int _)⟩
def rLenX (K : PySem.W.Frag) : List V → Hp → VK → Prop := fun xs H Q => rLenS K xs H Q ∨ (∃ z, xs = [.str z] ∧ z.length ≤ sizeLine ∧ Q (.int z.length) H)
theorem eg_lenXT (h : EG K ta Γ (.tuple ds)) : EG K (tCB (rLenX K) (tCons ta tNil)) Γ (.int (ds.length : Int)) := fun H0 M L σ H E Q q => h H0 M L σ H E _ fun v H1 e1 h1 => by
  cases h1 with
  | tup hs hv => exact .inl ⟨_, _, rfl, .inr (ex_t (er_ex L H1) hs), by rw [dps_len hv]; exact q _ H1 e1 (.int _)⟩
theorem eg_lenXL (h : EG K ta Γ (.list ds)) : EG K (tCB (rLenX K) (tCons ta tNil)) Γ (.int (ds.length : Int)) := fun H0 M L σ H E Q q => h H0 M L σ H E _ fun v H1 e1 h1 => by
  cases h1 with
  | lst hs hv => exact .inl ⟨_, _, rfl, .inl (ex_l (er_ex L H1) hs), by rw [dps_len hv]; exact q _ H1 e1 (.int _)⟩
theorem eg_lenXS {z : Str} (h : EG K ta Γ (.str z)) (hz : z.length ≤ 1000) : EG K (tCB (rLenX K) (tCons ta tNil)) Γ (.int z.length) := fun H0 M L σ H E Q q => h H0 M L σ H E _ fun v H1 e1 h1 => by
  cases h1
  exact .inr ⟨z, rfl, Nat.le_trans hz (by decide), q _ H1 e1 (.int _)⟩
/-- tuple(x) -/
def rTupS (K : PySem.W.Frag) : List V → Hp → VK → Prop := fun xs H Q => ∃ p ys, xs = [.ref p] ∧ ((SqL K H p ys ∧ ∀ l, H l = none → Q (.ref l) (upd H l (.tup ys))) ∨ (SqT K H p ys ∧ Q (.ref p) H))
theorem eg_tupL (h : EG K ta Γ (.list ds)) : EG K (tCB (rTupS K) (tCons ta tNil)) Γ (.tuple ds) := fun H0 M L σ H E Q q => h H0 M L σ H E _ fun v H1 e1 h1 => by
  cases h1 with
  | @lst a xs _ hs hv =>
    refine ⟨_, _, rfl, .inl ⟨ex_l (er_ex L H1) hs, fun p hp => ?_⟩⟩
    have np := (E.mono e1).fresh hp
    have e2 := Ex.new (o := .tup xs) hp
    refine q _ _ (e1.trans e2) (.tup (.inl (.inl ?_)) (dps_mono (er_mono e2) _ _ hv))
    rw [er_out np]
    exact upd_same
theorem eg_tupT (h : EG K ta Γ (.tuple ds)) : EG K (tCB (rTupS K) (tCons ta tNil)) Γ (.tuple ds) := fun H0 M L σ H E Q q => h H0 M L σ H E _ fun v H1 e1 h1 => by
  cases h1 with
  | @tup a xs _ hs hv => exact ⟨_, _, rfl, .inr ⟨ex_t (er_ex L H1) hs, q _ H1 e1 (.tup hs hv)⟩⟩
/-- list(x) -/
theorem eg_listL (h : EG K ta Γ (.list ds)) : EG K (tCB (rListS K) (tCons ta tNil)) Γ (.list ds) := fun H0 M L σ H E Q q => h H0 M L σ H E _ fun v H1 e1 h1 => by
  cases h1 with
  | @lst a xs _ hs hv =>
    refine ⟨_, _, rfl, .inl (ex_l (er_ex L H1) hs), fun p hp => ?_⟩
    have np := (E.mono e1).fresh hp
    have e2 := Ex.new (o := .lst xs) hp
    refine q _ _ (e1.trans e2) (.lst (.inl (.inl ?_)) (dps_mono (er_mono e2) _ _ hv))
    rw [er_out np]
    exact upd_same
/-- all of truth values -/
theorem eg_all {bs : List Bool} (h : EG K ta Γ (.list (bs.map .bool))) : EG K (tCB (rAll K) (tCons ta tNil)) Γ (.bool (bs.all id)) := fun H0 M L σ H E Q q => h H0 M L σ H E _ fun v H1 e1 h1 => by
  cases h1 with
  | @lst a xs _ hs hv =>
    have e := dps_bls hv
    subst e
    exact ⟨_, bs, rfl, ex_l (er_ex L H1) hs, q _ H1 e1 (.bl _)⟩
/-- min, max of two ints; int(x); abs(x) -/
def rMin2 : List V → Hp → VK → Prop := fun xs H Q => ∃ i j, xs = [.int i, .int j] ∧ Q (.int (if j < i then j else i)) H
def rMax2' : List V → Hp → VK → Prop := fun xs H Q => ∃ i j, xs = [.int i, .int j] ∧ Q (.int (if j > i then j else i)) H
theorem eg_min2 {i j : Int} (ha : EG K ta Γ (.int i)) (hb : EG K tb Γ (.int j)) : EG K (tCB rMin2 (tCons ta (tCons tb tNil))) Γ (.int (if j < i then j else i)) := fun H0 M L σ H E Q q =>
  ha H0 M L σ H E _ fun v H1 e1 h1 => hb H0 M L σ H1 (E.mono e1) _ fun w H2 e2 h2 => by
    cases h1
    cases h2
    exact ⟨i, j, rfl, q _ H2 (e1.trans e2) (.int _)⟩
theorem eg_max2 {i j : Int} (ha : EG K ta Γ (.int i)) (hb : EG K tb Γ (.int j)) : EG K (tCB rMax2' (tCons ta (tCons tb tNil))) Γ (.int (if j > i then j else i)) := fun H0 M L σ H E Q q =>
  ha H0 M L σ H E _ fun v H1 e1 h1 => hb H0 M L σ H1 (E.mono e1) _ fun w H2 e2 h2 => by
    cases h1
    cases h2
    exact ⟨i, j, rfl, q _ H2 (e1.trans e2) (.int _)⟩
def rInt1 : List V → Hp → VK → Prop := fun xs H Q => (∃ i, xs = [.int i] ∧ Q (.int i) H) ∨ ∃ k, xs = [.bl k] ∧ Q (.int (if k then 1 else 0)) H
theorem eg_int1 {i : Int} (ha : EG K ta Γ (.int i)) : EG K (tCB rInt1 (tCons ta tNil)) Γ (.int i) := fun H0 M L σ H E Q q => ha H0 M L σ H E _ fun v H1 e1 h1 => by
  cases h1
  exact .inl ⟨i, rfl, q _ H1 e1 (.int _)⟩
theorem eg_intB {k : Bool} (ha : EG K ta Γ (.bool k)) : EG K (tCB rInt1 (tCons ta tNil)) Γ (.int (if k then 1 else 0)) := fun H0 M L σ H E Q q => ha H0 M L σ H E _ fun v H1 e1 h1 => by
  cases h1
  exact .inr ⟨k, rfl, q _ H1 e1 (.int _)⟩
def rAbs : List V → Hp → VK → Prop := fun xs H Q => ∃ i, xs = [.int i] ∧ Q (.int (if i < 0 then -i else i)) H
theorem eg_abs {i : Int} (ha : EG K ta Γ (.int i)) : EG K (tCB rAbs (tCons ta tNil)) Γ (.int (if i < 0 then -i else i)) := fun H0 M L σ H E Q q => ha H0 M L σ H E _ fun v H1 e1 h1 => by
  cases h1
  exact ⟨i, rfl, q _ H1 e1 (.int _)⟩
/-! ### kinds -/
def tyD : PyData → String
  | .none => "NoneType"
  | .bool _ => "bool"
  | .int _ => "int"
  | .str _ => "str"
  | .list _ => "list"
  | .tuple _ => "tuple"
  | .dict _ => "dict"
theorem dp_ty {H : Hp} {v : V} (h : Dp K H v d) : TyX K H v (.type (tyD d)) := by
  cases h with
  | non => exact .base .non
  | bl b => exact .base (.bl b)
  | int i => exact .base (.int i)
  | str x => exact .base (.str x)
  | lst hs _ =>
    rcases hs with (h | ⟨o, h⟩) | ⟨o, its, n, h, hc, _⟩
    · exact .base (.lst h)
    · exact .base (.frz h)
    · exact .kList h hc
  | tup hs _ =>
    rcases hs with (h | ⟨o, h⟩) | ⟨o, its, n, h, hc, _⟩
    · exact .base (.tup h)
    · exact .fTuple h
    · exact .kTuple h hc
def isS (S T : String) : Bool := S == T || (S == "bool" && T == "int")
def isD (d : PyData) (T : String) : Bool := isS (tyD d) T
theorem kit_tab : (["NoneType", "bool", "int", "str", "list", "tuple", "dict"] : List String).all (fun S => (["int", "bool", "str", "tuple", "list"] : List String).all fun T => decide (kitB S T = some (isS S T))) = true := by decide +kernel
theorem tyD_in (d : PyData) : tyD d ∈ (["NoneType", "bool", "int", "str", "list", "tuple", "dict"] : List String) := by
  cases d <;> simp [tyD]
theorem kit_is (d : PyData) {T : String} (h : T = "int" ∨ T = "bool" ∨ T = "str" ∨ T = "tuple" ∨ T = "list") : PySem.W.kitOne K (.type (tyD d)) (.type T) = some (isD d T) := by
  refine kit_ty (of_decide_eq_true (List.all_eq_true.mp (List.all_eq_true.mp kit_tab _ (tyD_in d)) T ?_))
  rcases h with rfl | rfl | rfl | rfl | rfl <;> simp
theorem eg_isi {T : String} (ha : EG K ta Γ d) (h : T = "int" ∨ T = "bool" ∨ T = "str" ∨ T = "tuple" ∨ T = "list" := by decide) : EG K (tCB (rIsi K) (tCons ta (tCons (tC (.ty T)) tNil))) Γ (.bool (isD d T)) := fun H0 M L σ H E Q q => ha H0 M L σ H E _ fun v H1 e1 h1 =>
  ⟨v, .ty T, _, _, isD d T, rfl, .ty T, dp_ty (dp_mono (er_ex L H1) _ _ h1), kit_is d h, q _ H1 e1 (.bl _)⟩
theorem eg_isi2 {S T : String} (ha : EG K ta Γ d) (h : S = "int" ∨ S = "bool" ∨ S = "str" ∨ S = "tuple" ∨ S = "list" := by decide) (h' : T = "int" ∨ T = "bool" ∨ T = "str" ∨ T = "tuple" ∨ T = "list" := by decide) :
    EG K (tCB (rIsiT K) (tCons ta (tCons (tTup (tCons (tC (.ty S)) (tCons (tC (.ty T)) tNil))) tNil))) Γ (.bool (isD d S || isD d T)) := fun H0 M L σ H E Q q => ha H0 M L σ H E _ fun v H1 e1 h1 =>
  ⟨by show 2 ≤ sizeLine; decide, fun p hp => ⟨v, p, [.ty S, .ty T], _, [.type S, .type T], isD d S || isD d T, rfl, upd_same, .cons (.ty S) (.cons (.ty T) .nil), dp_ty (dp_mono ((er_ex L H1).trans (Ex.new hp)) _ _ h1),
    kitAny_cons (kit_is d h) (fun z => kitAny_cons (kit_is d h') (fun y => by rw [z, y]; rfl) (fun y => by rw [y, Bool.or_true])) (fun z => by rw [z, Bool.true_or]), q _ _ (e1.trans (Ex.new hp)) (.bl _)⟩⟩
/-! ### == and != of numbers, texts, truth values -/
theorem eg_eqI {i j : Int} (ha : EG K ta Γ (.int i)) (hb : EG K tb Γ (.int j)) : EG K (tOp rEq ta tb) Γ (.bool (decide (i = j))) := fun H0 M L σ H E Q q =>
  ha H0 M L σ H E _ fun v H1 e1 h1 => hb H0 M L σ H1 (E.mono e1) _ fun w H2 e2 h2 => by
    cases h1
    cases h2
    refine ⟨rfl, ?_⟩
    rw [show decide (V.int i = V.int j) = decide (i = j) from decide_eq_decide.mpr ⟨fun e => V.int.inj e, fun e => e ▸ rfl⟩]
    exact q _ H2 (e1.trans e2) (.bl _)
theorem eg_neI {i j : Int} (ha : EG K ta Γ (.int i)) (hb : EG K tb Γ (.int j)) : EG K (tOp rNe ta tb) Γ (.bool (!decide (i = j))) := fun H0 M L σ H E Q q =>
  ha H0 M L σ H E _ fun v H1 e1 h1 => hb H0 M L σ H1 (E.mono e1) _ fun w H2 e2 h2 => by
    cases h1
    cases h2
    refine ⟨rfl, ?_⟩
    rw [show decide (V.int i = V.int j) = decide (i = j) from decide_eq_decide.mpr ⟨fun e => V.int.inj e, fun e => e ▸ rfl⟩]
    exact q _ H2 (e1.trans e2) (.bl _)
theorem eg_eqS {x y : Str} (ha : EG K ta Γ (.str x)) (hb : EG K tb Γ (.str y)) : EG K (tOp rEq ta tb) Γ (.bool (decide (x = y))) := fun H0 M L σ H E Q q =>
  ha H0 M L σ H E _ fun v H1 e1 h1 => hb H0 M L σ H1 (E.mono e1) _ fun w H2 e2 h2 => by
    cases h1
    cases h2
    refine ⟨rfl, ?_⟩
    rw [show decide (V.str x = V.str y) = decide (x = y) from decide_eq_decide.mpr ⟨fun e => V.str.inj e, fun e => e ▸ rfl⟩]
    exact q _ H2 (e1.trans e2) (.bl _)
theorem eg_neS {x y : Str} (ha : EG K ta Γ (.str x)) (hb : EG K tb Γ (.str y)) : EG K (tOp rNe ta tb) Γ (.bool (!decide (x = y))) := fun H0 M L σ H E Q q =>
  ha H0 M L σ H E _ fun v H1 e1 h1 => hb H0 M L σ H1 (E.mono e1) _ fun w H2 e2 h2 => by
    cases h1
    cases h2
    refine ⟨rfl, ?_⟩
    rw [show decide (V.str x = V.str y) = decide (x = y) from decide_eq_decide.mpr ⟨fun e => V.str.inj e, fun e => e ▸ rfl⟩]
    exact q _ H2 (e1.trans e2) (.bl _)
theorem eg_eqB {x y : Bool} (ha : EG K ta Γ (.bool x)) (hb : EG K tb Γ (.bool y)) : EG K (tOp rEq ta tb) Γ (.bool (decide (x = y))) := fun H0 M L σ H E Q q =>
  ha H0 M L σ H E _ fun v H1 e1 h1 => hb H0 M L σ H1 (E.mono e1) _ fun w H2 e2 h2 => by
    cases h1
    cases h2
    refine ⟨rfl, ?_⟩
    rw [show decide (V.bl x = V.bl y) = decide (x = y) from decide_eq_decide.mpr ⟨fun e => V.bl.inj e, fun e => e ▸ rfl⟩]
    exact q _ H2 (e1.trans e2) (.bl _)
theorem eg_neB {x y : Bool} (ha : EG K ta Γ (.bool x)) (hb : EG K tb Γ (.bool y)) : EG K (tOp rNe ta tb) Γ (.bool (!decide (x = y))) := fun H0 M L σ H E Q q =>
  ha H0 M L σ H E _ fun v H1 e1 h1 => hb H0 M L σ H1 (E.mono e1) _ fun w H2 e2 h2 => by
    cases h1
    cases h2
    refine ⟨rfl, ?_⟩
    rw [show decide (V.bl x = V.bl y) = decide (x = y) from decide_eq_decide.mpr ⟨fun e => V.bl.inj e, fun e => e ▸ rfl⟩]
    exact q _ H2 (e1.trans e2) (.bl _)
/-- x is None -/
theorem eg_isN (ha : EG K ta Γ d) : EG K (tIsN ta) Γ (.bool (match d with | .none => true | _ => false)) := fun H0 M L σ H E Q q => ha H0 M L σ H E _ fun v H1 e1 h1 => by
  cases h1 with
  | non => exact q _ H1 e1 (.bl true)
  | bl b => exact q _ H1 e1 (.bl false)
  | int i => exact q _ H1 e1 (.bl false)
  | str x => exact q _ H1 e1 (.bl false)
  | lst h h' => exact q _ H1 e1 (.bl false)
  | tup h h' => exact q _ H1 e1 (.bl false)
/-! ### one sign in a text -/
def rInSg : R2 := fun x y H Q => ∃ (c : Nat) (z : Str), x = .str ⟨#[c]⟩ ∧ y = .str z ∧ Q (.bl (decide (c ∈ z.cps.toList))) H
theorem eg_inS {c : Nat} {z : Str} (ha : EG K ta Γ (.str ⟨#[c]⟩)) (hb : EG K tb Γ (.str z)) : EG K (tOp rInSg ta tb) Γ (.bool (decide (c ∈ z.cps.toList))) := fun H0 M L σ H E Q q =>
  ha H0 M L σ H E _ fun v H1 e1 h1 => hb H0 M L σ H1 (E.mono e1) _ fun w H2 e2 h2 => by
    cases h1
    cases h2
    exact ⟨c, z, rfl, rfl, q _ H2 (e1.trans e2) (.bl _)⟩
/-- s[lo:hi] -/
theorem eg_slS {z : Str} {tl th : TO} {lo hi : Option Int} (ha : EG K ta Γ (.str z)) (hl : OG K tl Γ lo) (hh : OG K th Γ hi) (hz : z.length ≤ 1000) : EG K (tSl rSlS ta tl th) Γ (.str (cutS z lo hi)) := fun H0 M L σ H E Q q =>
  ha H0 M L σ H E _ fun v H1 e1 h1 => hl H0 M L σ H1 (E.mono e1) _ fun H2 e2 => hh H0 M L σ H2 (E.mono (e1.trans e2)) _ fun H3 e3 => by
    cases h1
    exact ⟨z, rfl, Nat.le_trans hz (by decide), q _ H3 ((e1.trans e2).trans e3) (.str _)⟩
/-- a chain of comparisons -/
theorem eg_chain {g g' : Int → Int → Bool} {i j k : Int} (ha : EG K ta Γ (.int i)) (hb : EG K tb Γ (.int j)) (hc : EG K tc Γ (.int k)) : EG K (tChain (rI0 fun a b => .bl (g a b)) (rI0 fun a b => .bl (g' a b)) ta tb tc) Γ (.bool (g i j && g' j k)) := fun H0 M L σ H E Q q =>
  ha H0 M L σ H E _ fun v H1 e1 h1 => hb H0 M L σ H1 (E.mono e1) _ fun w H2 e2 h2 => by
    cases h1
    cases h2
    refine ⟨i, j, rfl, rfl, g i j, rfl, ?_⟩
    by_cases hg : g i j = true
    · rw [if_pos hg]
      exact hc H0 M L σ H2 (E.mono (e1.trans e2)) _ fun y H3 e3 h3 => by
        cases h3
        refine ⟨j, k, rfl, rfl, q _ H3 ((e1.trans e2).trans e3) ?_⟩
        rw [hg, Bool.true_and]
        exact .bl _
    · rw [if_neg hg]
      refine q _ H2 (e1.trans e2) ?_
      rw [Bool.not_eq_true] at hg
      rw [hg, Bool.false_and]
      exact .bl _
def someD : PyData → Bool
  | .none => false
  | _ => true
/-- x is None, is not None -/
theorem eg_notN (ha : EG K ta Γ d) : EG K (tNotN ta) Γ (.bool (someD d)) := fun H0 M L σ H E Q q => ha H0 M L σ H E _ fun v H1 e1 h1 => by
  have e : (!decide (v = V.non)) = someD d := by
    cases h1 <;> rfl
  show Q (.bl (!decide (v = V.non))) H1
  rw [e]
  exact q _ H1 e1 (.bl _)
/-! ### list + list -/
def rCatS (K : PySem.W.Frag) : R2 := fun x y H Q => ∃ l b xs zs, x = .ref l ∧ y = .ref b ∧ SqL K H l xs ∧ SqL K H b zs ∧ xs.length + zs.length ≤ sizeLine ∧ ∀ p, H p = none → Q (.ref p) (upd H p (.lst (xs ++ zs)))
theorem op_catS {X : Cx} : OpR X (binaryOp .Add) (rCatS X.K) := by
  intro pins s σ H x y v u Q I rx ry h
  obtain ⟨l, b, xs, zs, rfl, rfl, hH, hB, hz, q⟩ := h
  cases rx
  cases ry
  obtain ⟨its, r, ⟨⟨oc, od, odt, osl⟩, n, e, c, dn, hd⟩, _⟩ := I.list hH
  obtain ⟨its2, r2, ⟨⟨oc2, od2, odt2, osl2⟩, n2, e2, c2, dn2, hd2⟩, _⟩ := I.list hB
  simp only at c dn hd c2 dn2 hd2
  subst c dn hd c2 dn2 hd2
  have l1 := r.length
  have l2 := r2.length
  have ea : its.toArray ++ its2.toArray = (its ++ its2).toArray := by simp
  refine concat_meets ⟨_, e, rfl⟩ ⟨_, e2, rfl⟩ noFill_list_add seq_list_add PySem.F.slot_list_add PySem.F.entry_list_add (PySem.F.args_list_add_2 _ _) (list_addW l b its.toArray its2.toArray n n2 none none osl osl2 (by rw [List.size_toArray, List.size_toArray, ← l1, ← l2]; exact hz)) ⟨e, e2, ?_⟩
  rw [ea]
  exact ⟨.ref _, _, I.lnew (t' := s.toks) (r.append r2) (by rw [List.length_append]; exact hz), rfl, q _ I.fresh⟩
theorem eg_catL (ha : EG K ta Γ (.list ds)) (hb : EG K tb Γ (.list es)) (hz : ds.length + es.length ≤ 1000) : EG K (tOp (rCatS K) ta tb) Γ (.list (ds ++ es)) := fun H0 M L σ H E Q q =>
  ha H0 M L σ H E _ fun v H1 e1 h1 => hb H0 M L σ H1 (E.mono e1) _ fun w H2 e2 h2 => by
    have h1' := dp_mono (er_mono (L := L) e2) _ _ h1
    cases h1' with
    | @lst a xs _ hs hv =>
      cases h2 with
      | @lst c ys _ hs2 hv2 =>
        have l1 := dps_len hv
        have l2 := dps_len hv2
        refine ⟨_, _, _, _, rfl, rfl, ex_l (er_ex L H2) hs, ex_l (er_ex L H2) hs2, by rw [l1, l2]; exact sz_of (Nat.le_trans hz (by decide)), fun p hp => ?_⟩
        have np := (E.mono (e1.trans e2)).fresh hp
        have e4 := Ex.new (o := .lst (xs ++ ys)) hp
        refine q _ _ ((e1.trans e2).trans e4) (.lst (.inl (.inl ?_)) (dps_mono (er_mono e4) _ _ (dps_app hv hv2)))
        rw [er_out np]
        exact upd_same
end
end HR

set_option Elab.async false
set_option linter.all false
set_option maxRecDepth 100000
set_option maxHeartbeats 4000000
namespace HR
open PySem PySem.Spec PyProof.Rows L2 Evl

/-! ### sorted -/
section
variable {K : PySem.W.Frag}
abbrev sortD (ds : List PyData) : List PyData := ds.mergeSort (PySem.W.dataLe false fun d => d)
def rSortD (K : PySem.W.Frag) : List V → Hp → VK → Prop := fun vs H Q => ∃ (a : Addr) (xs : List V) (ds : List PyData) (Hs : Hp), vs = [.ref a] ∧ Ex Hs H ∧ SqL K H a xs ∧ DpAll K Hs xs ds ∧ PySem.W.AllAlike ds ∧ PySem.W.Sortable ds ∧ (∀ d ∈ ds, d.depth ≤ 60) ∧
  ∀ p ys, H p = none → ys.length ≤ sizeLine → DpAll K Hs ys (sortD ds) → Q (.ref p) (upd H p (.lst ys))
abbrev RelD (K : PySem.W.Frag) (Hs : Hp) (v : Value) (d : PyData) : Prop := ∃ y, RelV y v ∧ Dp K Hs y d
theorem each_of {Hs : Hp} : ∀ {ds : List PyData} {xs : List V} {its : List Value}, DpAll K Hs xs ds → Vals xs its → PySem.W.EachIs (RelD K Hs) its ds
  | [], _, _, h, r => by
    cases h
    cases r
    exact .nil
  | d :: ds, _, _, h, r => by
    cases h with
    | cons h1 h2 =>
      cases r with
      | cons r1 r2 => exact .cons ⟨_, r1, h1⟩ (each_of h2 r2)
theorem each_back {Hs : Hp} : ∀ {ds : List PyData} {out : List Value}, PySem.W.EachIs (RelD K Hs) out ds → ∃ ys, Vals ys out ∧ DpAll K Hs ys ds
  | _, _, .nil => ⟨[], .nil, .nil⟩
  | _, _, .cons h t => by
    obtain ⟨y, r, d⟩ := h
    obtain ⟨ys, r2, d2⟩ := each_back t
    exact ⟨y :: ys, .cons r r2, .cons d d2⟩
theorem cr_sortD {X : Cx} (hu : X.A.units + 64 < cLine) : CallR X (.builtin "sorted") (rSortD X.K) := by
  intro pins s σ H vs us Q I r h
  obtain ⟨a, xs, ds, Hs, rfl, ex, hs, hd, hal, hk, hdep, q⟩ := h
  obtain ⟨its, rv, hl, hz⟩ := I.list hs
  rw [Vals.ref1 r]
  have e1 := each_of hd rv
  have e2 : PySem.W.EachIs (fun v d => ∃ as, Reads s.heap v d as) its ds := e1.mono fun v d ⟨y, ry, dy⟩ => Dp.reads I d y v (dp_mono ex _ _ dy) ry
  have em : ds.map (fun d : PyData => d) = ds := List.map_id' ds
  refine PySem.W.sorted_data (enc := fun d => d) hl.isList e1 e2 (by rw [em]; exact hal) (by rw [em]; exact hk) (by rw [← dps_len hd]; exact hz) (fun d hdm => by have := hdep d hdm; omega) fun out ho eo => ?_
  obtain ⟨ys, ry, dy⟩ := each_back eo
  obtain ⟨ep, he'⟩ := PyProof.Rows.sortedAll_at s.heap its out.toArray
  have hlen : ys.length ≤ sizeLine := by
    rw [ry.length, ho, ← dps_len hd]
    exact hz
  exact ⟨.ref _, upd H (s.heap.objs.size + 1) (.lst ys), I.laid (t' := s.toks) (fun _ _ => PyProof.Rows.sortedAll_old) (Nat.le_succ _) ⟨hlen, out, ep, ry, he'⟩, rfl, q _ ys (I.hok.fresh (Nat.le_succ _)) hlen dy⟩
theorem eg_sort {Γ : Ctx} {ta : TE} {ds : List PyData} (h : EG K ta Γ (.list ds)) (hal : PySem.W.AllAlike ds) (hk : PySem.W.Sortable ds) (hdep : ∀ d ∈ ds, d.depth ≤ 60) : EG K (tCB (rSortD K) (tCons ta tNil)) Γ (.list (sortD ds)) := fun H0 M L σ H E Q q =>
  h H0 M L σ H E _ fun v H1 e1 h1 => by
    cases h1 with
    | @lst a xs _ hs hv =>
      refine ⟨_, _, ds, er L H1, rfl, er_ex L H1, ex_l (er_ex L H1) hs, hv, hal, hk, hdep, fun p ys hp _ hy => ?_⟩
      have np := (E.mono e1).fresh hp
      have e4 := Ex.new (o := .lst ys) hp
      refine q _ _ (e1.trans e4) (.lst (.inl (.inl ?_)) (dps_mono (er_mono e4) _ _ hy))
      rw [er_out np]
      exact upd_same
end

/-! ### enumerate(tuple) -/
/-- the tuple at a as it stands, its items in new pairs with their numbers -/
def IteT (K : PySem.W.Frag) (a : Addr) : It :=
  ⟨fun i H => ∃ (xs : List V) (x : V), SqT K H a xs ∧ xs[i]? = some x, fun i H v H' => ∃ T x, v = .ref T ∧ H T = none ∧ H' = upd H T (.tup [.int (i : Nat), x]) ∧ ∀ xs, SqT K H a xs → xs[i]? = some x, fun i H => ∃ xs : List V, SqT K H a xs ∧ xs.length ≤ i⟩
theorem enumT_end {prog : Program} {w : World} {A : Around} {E : Value → Shared → Prop} {s : Shared} {e it t : Addr} {i : Nat} {items : Array Value} {old : Value} {Q : Option Value → Shared → Prop} (hh : A.handled = none)
    (he : IsEnum s.heap e it i old) (hit : s.heap.IsTupleIter it t i) (ht : IsTup s.heap t items) (hx : items[i]? = none)
    (hQ : ∀ h', Heap.ExtBut it s.heap h' → Q none { s with heap := h' }) : wpAny (model prog w) A (pyNext (.ref e)) Q E s := by
  have hT : s.TypeIs (.ref e) "enumerate" := ⟨_, he, rfl⟩
  unfold pyNext
  refine wpAny_bind (wpAny_attempt (wpAny_callSpecial?_slot (name := Str.ofString "__next__") hT F.slot_enumerate_next
    (wpAny_call_entry F.slot_enumerate_next hT F.entry_enumerate_next ?_ (F.args_enumerate_next_1 _))))
  show wpAny _ _ (field (.ref e) 2 >>= _) _ _ _
  refine wpAny_bind (wpAny_field he rfl (x := .ref it) rfl ?_)
  refine wpAny_bind (wpAny_nextOf_tuple_end hh hit ht hx fun h' x he' hx' => ?_)
  obtain ⟨o, ho, hc⟩ := hx'
  refine wpAny_bind (wpAny_isInstance (T := "StopIteration") (b := true) ⟨o, ho, hc⟩ isSubtype_stop ?_)
  exact wpAny_pure (hQ _ he')
theorem meets_enumT (t : Addr) (items : Array Value) :
    Meets (Builtin.«enumerate.__new__» ⟨[.type "enumerate", .ref t], []⟩) (fun _ R s => s.heap.IsTuple t items ∧
      R (.ok (.ret (.ref (s.heap.push { cls := .type "tuple_iterator", data := .fields #[.ref t, .int 0 0] }).objs.size)))
        { s with heap := (s.heap.push { cls := .type "tuple_iterator", data := .fields #[.ref t, .int 0 0] }).push { cls := .type "enumerate", data := .fields #[.none, .bool false, .ref s.heap.objs.size, rawInt 0, .none, .none] } }) :=
  .of_wp fun prog w A R s h => by
    obtain ⟨hp, g, d, tk, os⟩ := s; obtain ⟨hl, h⟩ := h
    have hsub := sub_enumerate
    have q1 : ∀ {A' : Around} {E : Value → Shared → Prop} {Q : Value → Shared → Prop}, Q (.ref hp.objs.size) ⟨hp.push { cls := .type "tuple_iterator", data := .fields #[.ref t, .int 0 0] }, g, d, tk, os⟩ → wpAny (model prog w) A' (pyIter (.ref t)) Q E ⟨hp, g, d, tk, os⟩ :=
      fun q => wpAny_pyIter_tuple hl q
    wp_walk using q1
    refine wpAny_stack_any fun st => wpAny_pure ?_
    split
    · rename_i c _ _ _ _ _
      cases (c == Value.type "enumerate")
      · wp_walk using q1
        exact ⟨_, rfl, h⟩
      · wp_walk using q1
        exact ⟨_, rfl, h⟩
    · wp_walk using q1
      exact ⟨_, rfl, h⟩
theorem call_enumT {prog : Program} {w : World} {A : Around} {E : Value → Shared → Prop} {s : Shared} {l : Addr} {items : Array Value} {Q : Value → Shared → Prop} (hL : s.heap.IsTuple l items)
    (h : ∀ h', IsEnum h' (s.heap.objs.size + 1) s.heap.objs.size 0 .none → h'.IsTupleIter s.heap.objs.size l 0 → h'.objs.size = s.heap.objs.size + 2 →
      (∀ b o, s.heap.get? b = some o → h'.get? b = some o) → Q (.ref (s.heap.objs.size + 1)) { s with heap := h' }) :
    wpAny (model prog w) A (call (.type "enumerate") [.ref l]) Q E s := by
  refine callType_new F.called_enumerate (by decide) (F.typeCall_enumerate_1 _) (F.newCall_enumerate_1 _) (fun obj => F.args_object_init_2 obj _) F.entry_enumerate_new
    (meets_enumT l items) ⟨hL, ?_⟩
  have hz : (s.heap.push { cls := .type "tuple_iterator", data := .fields #[.ref l, .int 0 0] }).objs.size = s.heap.objs.size + 1 := Heap.size_push ..
  show _ ∧ _
  rw [hz]
  have he : IsEnum ((s.heap.push { cls := .type "tuple_iterator", data := .fields #[.ref l, .int 0 0] }).push
      { cls := .type "enumerate", data := .fields #[.none, .bool false, .ref s.heap.objs.size, rawInt 0, .none, .none] }) (s.heap.objs.size + 1) s.heap.objs.size 0 .none := by
    have := Heap.get?_push_size (s.heap.push { cls := .type "tuple_iterator", data := .fields #[.ref l, .int 0 0] })
      (o := { cls := .type "enumerate", data := .fields #[.none, .bool false, .ref s.heap.objs.size, rawInt 0, .none, .none] }) rfl
    rw [hz] at this; exact this
  refine ⟨⟨_, he, rfl⟩, h _ he ⟨_, Heap.get?_push_of_some _ (Heap.get?_push_size _ rfl), rfl, rfl⟩ (by rw [Heap.size_push, hz]) fun b o x => Heap.get?_push_of_some _ (Heap.get?_push_of_some _ x)⟩
theorem turn_enumT {P : Program} {w : World} {K : PySem.W.Frag} {elts : List Expr} {kk : Nat} {tpos : Pos} (a e it : Addr) (hea : a ≠ e) (hia : a ≠ it) :
    Turn P w K (.Tuple elts kk tpos) (IteT K a) [e, it] e (fun i h => (∃ old, IsEnum h e it ((i : Nat) : Int) old) ∧ h.IsTupleIter it a i ∧ e ≠ it) where
  mem := by simp
  obj := fun i h st b hb => by
    obtain ⟨⟨old, he⟩, ⟨o, ho, hc, hd⟩, _⟩ := st
    have e' : b = e ∨ b = it := by simpa using hb
    rcases e' with z | z
    · rw [z]; exact ⟨_, he, fun v q => nomatch q⟩
    · rw [z]; exact ⟨o, ho, fun v q => by rw [hd] at q; cases q⟩
  keep := fun i h h' st k => let ⟨⟨old, he⟩, hi, hne⟩ := st; ⟨⟨old, k e (by simp) _ he⟩, hi.at fun o q => k it (by simp) o q, hne⟩
  item := by
    intro X hP hw hK hc i pins s σ H E I hf st hg
    subst hP hw hK
    obtain ⟨⟨old, he⟩, hit, hne⟩ := st
    obtain ⟨xs, x, hq, hx⟩ := hg
    obtain ⟨its, rv, p, hz⟩ := I.tuple hq
    obtain ⟨u, hu, ru⟩ := rv.get hx
    have hel : e < s.heap.objs.size := Heap.lt_size he
    have hil : it < s.heap.objs.size := by obtain ⟨_, q, _⟩ := hit; exact Heap.lt_size q
    have hil2 : i < its.toArray.size := by
      rw [List.size_toArray]
      exact (List.getElem?_eq_some_iff.mp hu).1
    have D := Draws.tuple (prog := X.prog) (w := X.w) (A := X.A.in1) (I.ok.hd hc) it a hia its.toArray
    refine wpAny_pyNext_enum_itemD D he ⟨hit, p⟩ hil2 hne (by simp [hne, Ne.symm hea]) fun y h' tk hy ho hit' hT hsz hk => ?_
    have ey : y = u := by
      have : its.toArray[i]? = some u := by simpa using hu
      exact Option.some.inj (hy.symm.trans this)
    subst ey
    refine ⟨_, rfl, wpAny_letOwnedTupleGo_enum (s := { s with heap := h', toks := tk + 1 }) ho fun h'' he' sb => ?_⟩
    have hT2 : h''.get? s.heap.objs.size = some { cls := .type "tuple", data := .seq #[.int i tk, y] } := (sb.2 _ (Nat.ne_of_gt hel)).trans hT
    have new : ObjOk X.prog X.w (upd H s.heap.objs.size (.tup [.int (i : Nat), x])) h'' s.heap.objs.size (.tup [.int (i : Nat), x]) :=
      ⟨by show 2 ≤ sizeLine; decide, [.int i tk, y], .cons ⟨_, rfl⟩ (.cons ru .nil), ⟨_, hT2, rfl, _, rfl⟩⟩
    have I1 : Inv X pins σ (upd H s.heap.objs.size (.tup [.int (i : Nat), x])) { s with heap := h'', toks := tk + 1 } :=
      I.turnedNew (ch := [e, it]) (fun b ob hb q => (sb.2 b (fun z => hb (by simp [z]))).trans (hk b ob (fun z => hb (by simp [z])) (fun z => hb (by simp [z])) q)) hf (Nat.le_refl _) new
    refine ⟨.ref s.heap.objs.size, _, I1, rfl, ⟨_, x, rfl, I.hok.fresh (Nat.le_refl _), rfl, fun ys hy => by rw [I.tuple_inj hy hq]; exact hx⟩, ⟨⟨y, ?_⟩, hit'.1.at fun o q => (sb.2 it (Ne.symm hne)).trans q, hne⟩, fun b hb => ?_⟩
    · have e1 : ((i + 1 : Nat) : Int) = (i : Int) + 1 := by omega
      rw [e1]; exact he'
    · have hb' : b < s.heap.objs.size := by
        have e' : b = e ∨ b = it := by simpa using hb
        rcases e' with z | z
        · rw [z]; exact hel
        · rw [z]; exact hil
      rw [upd_ne (Nat.ne_of_lt hb')]
      exact (hf b hb).1
  done := by
    intro X hP hw hK hc i pins s σ H E I hf st hg
    subst hP hw hK
    obtain ⟨⟨old, he⟩, hit, hne⟩ := st
    obtain ⟨xs, hq, hx⟩ := hg
    obtain ⟨its, rv, p, hz⟩ := I.tuple hq
    obtain ⟨f0, f1, f2, f3, f4, f5⟩ := hf it (by simp)
    have hl := rv.length
    refine enumT_end (I.ok.hd hc) he hit p (by simp; omega) fun h' eb => ⟨rfl, I.turned (t' := s.toks) (fun b o hb q => eb b o hb q) f0 f1 f3 f4 f5⟩
  self := fun A i s Q E st h => let ⟨⟨_, he⟩, _⟩ := st; wpAny_pyIter_enum he h
def iEnumT (K : PySem.W.Frag) (ta : TA) : TI := fun σ H R => ta σ H fun vs H1 => ∃ a xs, vs = [.ref a] ∧ SqT K H1 a xs ∧ R (IteT K a) H1
theorem pi_enumT {X : Cx} {e : Expr} {ta : TA} {p pos tpos : Pos} {elts : List Expr} {kk : Nat} (hg : Gl X "enumerate") (hm : X.mg "enumerate" = none) (ha : PA X [e] ta) (hs : starEach [e] X.env = [(false, eval e X.env)] := by rfl) :
    PI X (.Tuple elts kk tpos) (.Call (.Name "enumerate" p) [e] [] pos) (iEnumT X.K ta) := by
  refine ⟨fun pins s σ H R I h => ?_⟩
  refine Call_ (ld_blt I hg hm boot_enumerate (PyProof.Rows.callWith_type1 (thn (ha.run pos pins s σ H _ I h) fun us s1 ⟨vs, H1, I1, r1, q1⟩ => ?_) hs rfl))
  obtain ⟨a, xs, ex, hq, q⟩ := q1
  subst ex
  cases r1 with
  | cons r rr =>
    cases rr
    cases r
    obtain ⟨its, rv, p', hz⟩ := I1.tuple hq
    have hlt : a < s1.heap.objs.size := by
      obtain ⟨o, ho, _⟩ := id p'
      exact Heap.lt_size ho
    refine call_enumT (show s1.heap.IsTuple a its.toArray from p') fun h' he hit hsz hk => wpAny_pyIter_enum he ?_
    have I2 : Inv X pins σ H1 { s1 with heap := h' } := I1.kept (t' := s1.toks) hk
    refine ⟨s1.heap.objs.size + 1, [s1.heap.objs.size + 1, s1.heap.objs.size], _, _, H1, rfl, I2, turn_enumT a (s1.heap.objs.size + 1) s1.heap.objs.size (Nat.ne_of_lt (Nat.lt_succ_of_lt hlt)) (Nat.ne_of_lt hlt), ⟨⟨.none, he⟩, hit, Nat.succ_ne_self _⟩, fun b hb => ?_, q⟩
    have e' : b = s1.heap.objs.size + 1 ∨ b = s1.heap.objs.size := by simpa using hb
    have hle : s1.heap.objs.size ≤ b := by
      rcases e' with z | z
      · rw [z]; exact Nat.le_add_right _ _
      · rw [z]; exact Nat.le_refl _
    exact I1.fpOk hle (I1.hok.fresh hle)
theorem walk_enumT {K : PySem.W.Frag} {a : Addr} {xs : List V} : Walk (IteT K a) xs.length (fun H => SqT K H a xs) (YPair (fun i => some (.int (i : Nat))) (fun i => xs[i]?)) := by
  refine ⟨fun i _ hi q => ⟨xs, xs[i], q, by simp [hi]⟩, fun _ q => ⟨xs, q, Nat.le_refl _⟩, fun i H v H' _ q y => ?_⟩
  obtain ⟨T, x, h1, h2, h3, h4⟩ := y
  exact ⟨T, .int (i : Nat), x, h1, h2, h3, rfl, h4 xs q⟩
theorem walk_zipT {K : PySem.W.Frag} {a b : Addr} {xs ys : List V} {n : Nat} (hn : n = min xs.length ys.length) : Walk (RZ.ItzT K a b) n (fun H => SqT K H a xs ∧ SqT K H b ys) (YPair (fun i => xs[i]?) (fun i => ys[i]?)) := by
  subst hn
  refine ⟨fun i _ hi q => ?_, fun _ q => ⟨xs, ys, q.1, q.2, by omega⟩, fun i H v H' _ q y => ?_⟩
  · have h1 : i < xs.length := by omega
    have h2 : i < ys.length := by omega
    exact ⟨xs, ys, xs[i], ys[i], q.1, q.2, by simp [h1], by simp [h2]⟩
  · obtain ⟨T, x, z, h1, h2, h3, h4, h5⟩ := y
    exact ⟨T, x, z, h1, h2, h3, h4 xs q.1, h5 ys q.2⟩
end HR

set_option Elab.async false
set_option linter.all false
set_option maxRecDepth 100000
set_option maxHeartbeats 4000000
namespace HR
open PySem PySem.Spec PyProof.Rows L2 Evl

/-! ### what is walked -/
structure Src (K : PySem.W.Frag) (wi : TI) (Γ : Ctx) (its : List PyData) : Prop where
  run : ∀ (H0 : Hp) (M L : List Addr) (σ : L2.St) (H : Hp), Env K H0 M L σ H Γ → ∀ R : It → Hp → Prop,
    (∀ (J : It) (H1 : Hp) (G : Hp → Prop) (Y : Nat → Hp → V → Hp → Prop), Ex H H1 → Walk J its.length G Y → (∀ H', Ex (er L H1) (er L H') → G H') →
      (∀ L' i x H2 H3, i < its.length → Ex (er L H1) (er L' H2) → (∀ a ∈ L', ∃ o, H2 a = some o) → Y i H2 x H3 → Ex H2 H3 ∧ ∃ d, its[i]? = some d ∧ Dp K (er L' H3) x d) → R J H1) → wi σ H R
section
variable {K : PySem.W.Frag} {Γ : Ctx} {tl te : TE} {ta : TA} {ds es : List PyData} {wi : TI}
theorem src_tup (h : EG K tl Γ (.tuple ds)) : Src K (iTup K tl) Γ ds := ⟨fun H0 M L σ H E R q => h H0 M L σ H E _ fun v H1 e1 h1 => by
  cases h1 with
  | @tup a xs _ hs hv =>
    have hl := dps_len hv
    refine ⟨a, rfl, ⟨xs, ex_t (er_ex L H1) hs⟩, q (Itt K a) H1 (fun H => SqT K H a xs) (YAt xs) e1 (hl ▸ walk_tup) (fun H' e => ex_t (er_ex L H') (ex_t e hs)) fun L' i x H2 H3 hi e _ hy => ?_⟩
    obtain ⟨rfl, hx⟩ := hy
    obtain ⟨d, hd, hdp⟩ := dps_at hv hx
    exact ⟨Ex.refl _, d, hd, dp_mono e _ _ hdp⟩⟩
theorem src_list (h : EG K tl Γ (.list ds)) : Src K (iList K tl) Γ ds := ⟨fun H0 M L σ H E R q => h H0 M L σ H E _ fun v H1 e1 h1 => by
  cases h1 with
  | @lst a xs _ hs hv =>
    have hl := dps_len hv
    refine ⟨a, rfl, ⟨xs, ex_l (er_ex L H1) hs⟩, q (Itl K a) H1 (fun H => SqL K H a xs) (YAt xs) e1 (hl ▸ walk_list) (fun H' e => ex_l (er_ex L H') (ex_l e hs)) fun L' i x H2 H3 hi e _ hy => ?_⟩
    obtain ⟨rfl, hx⟩ := hy
    obtain ⟨d, hd, hdp⟩ := dps_at hv hx
    exact ⟨Ex.refl _, d, hd, dp_mono e _ _ hdp⟩⟩
/-- a list or a tuple -/
def iSeq (K : PySem.W.Frag) (tl : TE) : TI := fun σ H R => iList K tl σ H R ∨ iTup K tl σ H R
theorem pi_seq {X : Cx} {tg l : Expr} (hl : PE X l tl) : PI X tg l (iSeq X.K tl) := ⟨fun pins s σ H R I h => by
  rcases h with h | h
  · exact (pi_list hl).run pins s σ H R I h
  · exact (pi_tup hl).run pins s σ H R I h⟩
theorem src_seqL (h : EG K tl Γ (.list ds)) : Src K (iSeq K tl) Γ ds := ⟨fun H0 M L σ H E R q => .inl ((src_list h).run H0 M L σ H E R q)⟩
theorem src_seqT (h : EG K tl Γ (.tuple ds)) : Src K (iSeq K tl) Γ ds := ⟨fun H0 M L σ H E R q => .inr ((src_tup h).run H0 M L σ H E R q)⟩
theorem ag_1 {H : Hp} {vs : List V} {d : PyData} (h : DpAll K H vs [d]) : ∃ v, vs = [v] ∧ Dp K H v d := by
  cases h with
  | cons h1 h2 =>
    cases h2
    exact ⟨_, rfl, h1⟩
theorem ag_2 {H : Hp} {vs : List V} {d d' : PyData} (h : DpAll K H vs [d, d']) : ∃ v v', vs = [v, v'] ∧ Dp K H v d ∧ Dp K H v' d' := by
  cases h with
  | cons h1 h2 =>
    obtain ⟨v, rfl, h3⟩ := ag_1 h2
    exact ⟨_, _, rfl, h1, h3⟩
theorem src_rng1 {n : Nat} (h : AG K ta Γ [.int (n : Nat)]) (hn : n ≤ 1000) : Src K (iRng1 ta) Γ ((List.range n).map fun i => .int (i : Nat)) := ⟨fun H0 M L σ H E R q => by
  refine h H0 M L σ H E _ fun vs H1 e1 h1 => ?_
  obtain ⟨v, rfl, hv⟩ := ag_1 h1
  cases hv
  refine ⟨n, rfl, by omega, by omega, q (Itr 0 n) H1 (fun _ => True) (YFn fun i => .int (0 + i)) e1 (by rw [List.length_map, List.length_range]; exact walk_range) (fun _ _ => trivial) fun L' i x H2 H3 hi e _ hy => ?_⟩
  obtain ⟨rfl, rfl⟩ := hy
  rw [List.length_map, List.length_range] at hi
  refine ⟨Ex.refl _, .int (i : Nat), by rw [List.getElem?_map, List.getElem?_range hi]; rfl, ?_⟩
  show Dp K (er L' H3) (.int (0 + (i : Int))) _
  rw [Int.zero_add]
  exact .int _⟩
theorem src_rng2 {lo n : Nat} (h : AG K ta Γ [.int (lo : Nat), .int ((lo + n : Nat) : Int)]) (hn : lo + n ≤ 1000) : Src K (iRng2 ta) Γ ((List.range n).map fun i => .int ((lo + i : Nat) : Int)) := ⟨fun H0 M L σ H E R q => by
  refine h H0 M L σ H E _ fun vs H1 e1 h1 => ?_
  obtain ⟨v, v', rfl, hv, hv'⟩ := ag_2 h1
  cases hv
  cases hv'
  have en : (((lo + n : Nat) : Int) - (lo : Int)).toNat = n := by omega
  refine ⟨lo, ((lo + n : Nat) : Int), rfl, ⟨by omega, by omega, by omega, by omega⟩, q _ H1 (fun _ => True) (YFn fun i => .int ((lo : Int) + i)) e1 (by rw [List.length_map, List.length_range, en]; exact walk_range) (fun _ _ => trivial) fun L' i x H2 H3 hi e _ hy => ?_⟩
  obtain ⟨rfl, rfl⟩ := hy
  rw [List.length_map, List.length_range] at hi
  refine ⟨Ex.refl _, .int ((lo + i : Nat) : Int), by rw [List.getElem?_map, List.getElem?_range hi]; rfl, ?_⟩
  have e2 : ((lo + i : Nat) : Int) = (lo : Int) + (i : Int) := by omega
  rw [e2]
  exact .int _⟩
theorem src_str {z : Str} (h : EG K te Γ (.str z)) : Src K (iStr te) Γ (z.cps.toList.map fun c => .str ⟨#[c]⟩) := ⟨fun H0 M L σ H E R q => h H0 M L σ H E _ fun v H1 e1 h1 => by
  cases h1
  refine ⟨z, rfl, q (Its z) H1 (fun _ => True) _ e1 (by rw [List.length_map, Array.length_toList]; exact walk_str) (fun _ _ => trivial) fun L' i x H2 H3 hi e _ hy => ?_⟩
  obtain ⟨rfl, c, hc, rfl⟩ := hy
  exact ⟨Ex.refl _, .str ⟨#[c]⟩, by rw [List.getElem?_map, Array.getElem?_toList, hc]; rfl, .str _⟩⟩
/-- a new pair -/
theorem pair_new {L : List Addr} {H2 : Hp} {T : Addr} {x y : V} {d d' : PyData} (hl : ∀ a ∈ L, ∃ o, H2 a = some o) (hT : H2 T = none) (hx : Dp K (er L H2) x d) (hy : Dp K (er L H2) y d') :
    Ex H2 (upd H2 T (.tup [x, y])) ∧ Dp K (er L (upd H2 T (.tup [x, y]))) (.ref T) (.tuple [d, d']) := by
  have nT : T ∉ L := fun m => by
    obtain ⟨o, e⟩ := hl T m
    rw [hT] at e
    cases e
  have e := Ex.new (o := .tup [x, y]) hT
  refine ⟨e, .tup (.inl (.inl ?_)) (.cons (dp_mono (er_mono e) _ _ hx) (.cons (dp_mono (er_mono e) _ _ hy) .nil))⟩
  rw [er_out nT]
  exact upd_same
theorem src_zipT (h : AG K ta Γ [.tuple ds, .tuple es]) : Src K (RZ.iZipA K ta) Γ ((ds.zip es).map fun p => .tuple [p.1, p.2]) := ⟨fun H0 M L σ H E R q => by
  refine h H0 M L σ H E _ fun vs H1 e1 h1 => ?_
  obtain ⟨v, v', rfl, h2, h3⟩ := ag_2 h1
  cases h2 with
  | @tup a xs _ hs hv =>
    cases h3 with
    | @tup b ys _ hs2 hv2 =>
      have l1 := dps_len hv
      have l2 := dps_len hv2
      refine ⟨a, b, xs, ys, rfl, .inr ⟨ex_t (er_ex L H1) hs, ex_t (er_ex L H1) hs2, q (RZ.ItzT K a b) H1 (fun H => SqT K H a xs ∧ SqT K H b ys) (YPair (fun i => xs[i]?) (fun i => ys[i]?)) e1
        (walk_zipT (by rw [List.length_map, List.length_zip, l1, l2])) (fun H' e => ⟨ex_t (er_ex L H') (ex_t e hs), ex_t (er_ex L H') (ex_t e hs2)⟩) fun L' i x H2 H3 hi e hl hy => ?_⟩⟩
      obtain ⟨T, x, y, rfl, hT, rfl, hx, hy⟩ := hy
      obtain ⟨d, hd, hdp⟩ := dps_at hv hx
      obtain ⟨d', hd', hdp'⟩ := dps_at hv2 hy
      obtain ⟨p1, p2⟩ := pair_new hl hT (dp_mono e _ _ hdp) (dp_mono e _ _ hdp')
      exact ⟨p1, .tuple [d, d'], by rw [List.getElem?_map, (List.getElem?_zip_eq_some (z := (d, d'))).mpr ⟨hd, hd'⟩]; rfl, p2⟩⟩
theorem src_zipL (h : AG K ta Γ [.list ds, .list es]) : Src K (RZ.iZipA K ta) Γ ((ds.zip es).map fun p => .tuple [p.1, p.2]) := ⟨fun H0 M L σ H E R q => by
  refine h H0 M L σ H E _ fun vs H1 e1 h1 => ?_
  obtain ⟨v, v', rfl, h2, h3⟩ := ag_2 h1
  cases h2 with
  | @lst a xs _ hs hv =>
    cases h3 with
    | @lst b ys _ hs2 hv2 =>
      have l1 := dps_len hv
      have l2 := dps_len hv2
      refine ⟨a, b, xs, ys, rfl, .inl ⟨ex_l (er_ex L H1) hs, ex_l (er_ex L H1) hs2, q (Itz K a b) H1 (fun H => SqL K H a xs ∧ SqL K H b ys) (YPair (fun i => xs[i]?) (fun i => ys[i]?)) e1
        (walk_zip (by rw [List.length_map, List.length_zip, l1, l2])) (fun H' e => ⟨ex_l (er_ex L H') (ex_l e hs), ex_l (er_ex L H') (ex_l e hs2)⟩) fun L' i x H2 H3 hi e hl hy => ?_⟩⟩
      obtain ⟨T, x, y, rfl, hT, rfl, hx, hy⟩ := hy
      obtain ⟨d, hd, hdp⟩ := dps_at hv hx
      obtain ⟨d', hd', hdp'⟩ := dps_at hv2 hy
      obtain ⟨p1, p2⟩ := pair_new hl hT (dp_mono e _ _ hdp) (dp_mono e _ _ hdp')
      exact ⟨p1, .tuple [d, d'], by rw [List.getElem?_map, (List.getElem?_zip_eq_some (z := (d, d'))).mpr ⟨hd, hd'⟩]; rfl, p2⟩⟩
theorem src_enumT (h : AG K ta Γ [.tuple ds]) : Src K (iEnumT K ta) Γ (ds.zipIdx.map fun p => .tuple [.int (p.2 : Nat), p.1]) := ⟨fun H0 M L σ H E R q => by
  refine h H0 M L σ H E _ fun vs H1 e1 h1 => ?_
  obtain ⟨v, rfl, h2⟩ := ag_1 h1
  cases h2 with
  | @tup a xs _ hs hv =>
    have l1 := dps_len hv
    refine ⟨a, xs, rfl, ex_t (er_ex L H1) hs, q (IteT K a) H1 (fun H => SqT K H a xs) _ e1 (by rw [List.length_map, List.length_zipIdx, ← l1]; exact walk_enumT) (fun H' e => ex_t (er_ex L H') (ex_t e hs)) fun L' i x H2 H3 hi e hl hy => ?_⟩
    obtain ⟨T, x, y, rfl, hT, rfl, hx, hy⟩ := hy
    cases Option.some.inj hx
    obtain ⟨d, hd, hdp⟩ := dps_at hv hy
    obtain ⟨p1, p2⟩ := pair_new hl hT (.int (i : Nat)) (dp_mono e _ _ hdp)
    exact ⟨p1, .tuple [.int (i : Nat), d], by rw [List.getElem?_map, List.getElem?_zipIdx, hd]; simp, p2⟩⟩
theorem src_enumL (h : AG K ta Γ [.list ds]) : Src K (iEnum K ta) Γ (ds.zipIdx.map fun p => .tuple [.int (p.2 : Nat), p.1]) := ⟨fun H0 M L σ H E R q => by
  refine h H0 M L σ H E _ fun vs H1 e1 h1 => ?_
  obtain ⟨v, rfl, h2⟩ := ag_1 h1
  cases h2 with
  | @lst a xs _ hs hv =>
    have l1 := dps_len hv
    refine ⟨a, xs, rfl, ex_l (er_ex L H1) hs, q (Ite K a) H1 (fun H => SqL K H a xs) _ e1 (by rw [List.length_map, List.length_zipIdx, ← l1]; exact walk_enum) (fun H' e => ex_l (er_ex L H') (ex_l e hs)) fun L' i x H2 H3 hi e hl hy => ?_⟩
    obtain ⟨T, x, y, rfl, hT, rfl, hx, hy⟩ := hy
    cases Option.some.inj hx
    obtain ⟨d, hd, hdp⟩ := dps_at hv hy
    obtain ⟨p1, p2⟩ := pair_new hl hT (.int (i : Nat)) (dp_mono e _ _ hdp)
    exact ⟨p1, .tuple [.int (i : Nat), d], by rw [List.getElem?_map, List.getElem?_zipIdx, hd]; simp, p2⟩⟩
end

/-! ### targets -/
structure Bnd (K : PySem.W.Frag) (g : TG) (js : List Nat) (Γ : Ctx) (d : PyData) (Γ' : Ctx) : Prop where
  run : ∀ (H0 : Hp) (M L : List Addr) (σ : L2.St) (H : Hp) (x : V), Env K H0 M L σ H Γ → Dp K (er L H) x d → ∀ Q : L2.St → Hp → Prop,
    (∀ σ', Env K H0 M L σ' H Γ' → (∀ vs : List Nat, (∀ j ∈ js, j ∈ vs) → L2.wipe σ' vs = L2.wipe σ vs) → Q σ' H) → g x σ H Q
theorem wipe_set {j : Nat} {z : Option V} : ∀ {vs : List Nat} {σ : L2.St}, j ∈ vs → L2.wipe (σ.set j z) vs = L2.wipe σ vs
  | [], _, h => by cases h
  | v :: vs, σ, h => by
    show (L2.wipe (σ.set j z) vs).set v none = (L2.wipe σ vs).set v none
    by_cases m : j ∈ vs
    · rw [wipe_set m]
    · have e : j = v := by
        rcases List.mem_cons.mp h with q | q
        · exact q
        · exact absurd q m
      subst e
      have c : ∀ (us : List Nat) (τ : L2.St), j ∉ us → L2.wipe (τ.set j z) us = (L2.wipe τ us).set j z := by
        intro us
        induction us with
        | nil => intro τ _; rfl
        | cons u us ih =>
          intro τ hu
          show (L2.wipe (τ.set j z) us).set u none = ((L2.wipe τ us).set u none).set j z
          rw [ih τ fun q => hu (List.mem_cons_of_mem _ q)]
          exact List.set_comm _ _ (fun q => hu (q ▸ List.mem_cons_self))
      rw [c vs σ m, List.set_set]
theorem wipe_wipe (σ : L2.St) : ∀ vs : List Nat, L2.wipe (L2.wipe σ vs) vs = L2.wipe σ vs
  | [] => rfl
  | v :: vs => by
    show (L2.wipe ((L2.wipe σ vs).set v none) vs).set v none = (L2.wipe σ vs).set v none
    have c : ∀ (us : List Nat) (τ : L2.St), (L2.wipe (τ.set v none) us).set v none = (L2.wipe τ us).set v none := by
      intro us
      induction us with
      | nil =>
        intro τ
        exact List.set_set ..
      | cons u us ih =>
        intro τ
        show ((L2.wipe (τ.set v none) us).set u none).set v none = ((L2.wipe τ us).set u none).set v none
        by_cases e : u = v
        · subst e
          rw [List.set_set, List.set_set, ih]
        · rw [List.set_comm _ _ e, ih, List.set_comm _ _ (Ne.symm e)]
    rw [c vs, wipe_wipe σ vs]
section
variable {K : PySem.W.Frag} {Γ : Ctx}
theorem bnd_name {j : Nat} {d : PyData} (hj : j < Γ.length := by exact Nat.le_of_ble_eq_true rfl) : Bnd K (gName j) [j] Γ d (Γ.set j (.dat d)) := ⟨fun H0 M L σ H x E h Q q => q _ (E.set hj h) fun vs hv => wipe_set (hv j (by simp))⟩
theorem bnd_two {j k : Nat} {d d' : PyData} (hj : j < Γ.length := by exact Nat.le_of_ble_eq_true rfl) (hk : k < Γ.length := by exact Nat.le_of_ble_eq_true rfl) : Bnd K (gTup K 2 (gCons (gName j) (gCons (gName k) gNil))) [j, k] Γ (.tuple [d, d']) ((Γ.set j (.dat d)).set k (.dat d')) := ⟨fun H0 M L σ H x E h Q q => by
  cases h with
  | @tup a xs _ hs hv =>
    obtain ⟨v, v', rfl, h1, h2⟩ := ag_2 hv
    refine ⟨a, _, rfl, ex_t (er_ex L H) hs, rfl, v, _, rfl, v', _, rfl, rfl, ?_⟩
    refine q _ ((E.set hj h1).set (by rw [List.length_set]; exact hk) h2) fun vs hv => ?_
    rw [wipe_set (hv k (by simp)), wipe_set (hv j (by simp))]⟩
end

/-! ### comprehensions -/
section
variable {K : PySem.W.Frag} {Γ : Ctx} {wi : TI} {g : TG} {tt : TT} {te : TE} {vs js : List Nat}
theorem Env.ext {H0 H1 H : Hp} {M L : List Addr} {σ : L2.St} {Γ : Ctx} {D : Addr} (E : Env K H0 M L σ H1 Γ) (hD : H1 D = none) (e : Ex H1 H) (hl : ∃ o, H D = some o) : Env K H0 (D :: M) (D :: L) σ H Γ := by
  obtain ⟨o, ho⟩ := hl
  have e1 : er (D :: L) H1 = er L H1 := er_cons hD
  have e0 : er (D :: M) H1 = er M H1 := er_cons hD
  have em : Ex (er L H1) (er (D :: L) H) := by
    rw [← e1]
    exact er_mono e
  refine ⟨E.len, fun a ha => ?_, fun a ha => ?_, ?_, fun i x hx => ?_⟩
  · rcases List.mem_cons.mp ha with q | q
    · exact ⟨o, q ▸ ho⟩
    · obtain ⟨u, hu⟩ := E.live a q
      exact ⟨u, e _ _ hu⟩
  · rcases List.mem_cons.mp ha with q | q
    · exact List.mem_cons.mpr (.inl q)
    · exact List.mem_cons_of_mem _ (E.sub a q)
  · refine E.base.trans ?_
    rw [← e0]
    exact er_mono e
  · have k := E.ent i x hx
    cases x with
    | no => trivial
    | dat d =>
      obtain ⟨v, h1, h2⟩ := k
      exact ⟨v, h1, dp_mono em _ _ h2⟩
    | lst a ds =>
      obtain ⟨vs, h1, h2, h3, h4⟩ := k
      exact ⟨vs, h1, List.mem_cons_of_mem _ h2, e _ _ h3, dps_mono em _ _ h4⟩
    | dk a kvs =>
      obtain ⟨vs, h1, h2, h3, h4⟩ := k
      exact ⟨vs, h1, List.mem_cons_of_mem _ h2, e _ _ h3, kvd_mono em h4⟩
    | tin a n =>
      obtain ⟨h1, h2, x, y, c, h3, h4⟩ := k
      exact ⟨h1, List.mem_cons_of_mem _ h2, x, y, c, e _ _ h3, h4⟩
    | fn f => exact k
    | fz a kvs =>
      obtain ⟨vs, od, h1, h2, h3, h4⟩ := k
      exact ⟨vs, od, h1, List.mem_cons_of_mem _ h2, e _ _ h3, kvd_mono em h4⟩
    | rd a kvs =>
      obtain ⟨vs, h1, h3, h4⟩ := k
      exact ⟨vs, h1, ex_rd em h3, kvd_mono em h4⟩
/-- what a comprehension's walk gives, the walked thing having come -/
theorem lcF_in {α : Type} {enc : α → PyData} {xs : List α} {H0 H1 : Hp} {M L : List Addr} {σ : L2.St} {J : It} {G : Hp → Prop} {Y : Nat → Hp → V → Hp → Prop} (E1 : Env K H0 M L σ H1 Γ) (w : Walk J xs.length G Y) (hG : ∀ H', Ex H1 H' → G H')
    (hY : ∀ L' i x H2 H3, i < xs.length → Ex (er L H1) (er L' H2) → (∀ a ∈ L', ∃ o, H2 a = some o) → Y i H2 x H3 → Ex H2 H3 ∧ ∃ d, (xs.map enc)[i]? = some d ∧ Dp K (er L' H3) x d)
    (Γb : α → Ctx) (B : ∀ x ∈ xs, Bnd K g js (wipeC Γ vs) (enc x) (Γb x)) (p : α → Bool) (f : α → PyData) (hn : xs.length ≤ 50000)
    (ht : ∀ x ∈ xs, QG K tt (Γb x) (p x)) (he : ∀ x ∈ xs, p x = true → EG K te (Γb x) (f x)) (hjs : ∀ j ∈ js, j ∈ vs) {D : Addr} (hD : H1 D = none) {Qd : Hp → Prop} (q : ∀ H', Ex H1 H' → Dp K (er L H') (.ref D) (.list ((xs.filter p).map f)) → Qd H') :
    ∃ W : Nat → Nat → Hp → Prop, (∃ m, W 0 m (upd H1 D (.lst []))) ∧ ∀ i m H, W i m H →
      (J.stop i H ∧ Qd H) ∨ (J.go i H ∧ ∃ Nx : Hp → Prop, (∀ H', Nx H' → ∃ m', m' < m ∧ W (i + 1) m' H') ∧ ∀ x H', J.yld i H x H' → g x (L2.wipe σ vs) H' fun σ2 H2 => L2.wipe σ2 vs = L2.wipe σ vs ∧ tt σ2 H2 fun b H3 =>
        if b = true then te σ2 H3 fun y H4 => ∃ acc, H4 D = some (.lst acc) ∧ acc.length < sizeLine ∧ Nx (upd H4 D (.lst (acc ++ [y]))) else Nx H3) := by
  have nD := E1.fresh hD
  have eD : er (D :: L) H1 = er L H1 := er_cons hD
  have wl : ∀ {H' : Hp}, Ex H1 H' → Ex (er L H1) (er (D :: L) H') := fun x => by
    rw [← eD]
    exact er_mono x
  refine lc_it w (fun i H' => Ex H1 H' ∧ ∃ acc, H' D = some (.lst acc) ∧ DpAll K (er (D :: L) H') acc (((xs.take i).filter p).map f)) ⟨Ex.new hD, [], upd_same, .nil⟩
    (fun i H' _ ⟨x, _⟩ => hG H' x) ?_ ?_
  · rintro i x H2 H3 hi ⟨x1, acc, ha, hd⟩ hy
    have live2 : ∀ a ∈ D :: L, ∃ o, H2 a = some o := (E1.ext hD x1 ⟨_, ha⟩).live
    obtain ⟨x2, d, hd2, hdp⟩ := hY (D :: L) i x H2 H3 hi (wl x1) live2 hy
    have hxi : xs[i]? = some xs[i] := List.getElem?_eq_getElem hi
    have ed : d = enc xs[i] := by
      rw [List.getElem?_map, hxi] at hd2
      exact (Option.some.inj hd2).symm
    subst ed
    have mem : xs[i] ∈ xs := List.getElem_mem hi
    have etk : xs.take (i + 1) = xs.take i ++ [xs[i]] := by rw [List.take_add_one, hxi]; rfl
    have E3 : Env K H0 (D :: M) (D :: L) (L2.wipe σ vs) H3 (wipeC Γ vs) := (E1.ext hD (x1.trans x2) ⟨_, x2 _ _ ha⟩).wipe vs
    refine (B _ mem).run H0 (D :: M) (D :: L) _ H3 x E3 hdp _ fun σ2 E4 hw => ⟨by rw [hw vs hjs, wipe_wipe], ?_⟩
    refine ht _ mem H0 (D :: M) (D :: L) σ2 H3 E4 _ fun H4 e4 => ?_
    have E5 := E4.mono e4
    by_cases hp : p xs[i] = true
    · rw [if_pos hp]
      refine he _ mem hp H0 (D :: M) (D :: L) σ2 H4 E5 _ fun y H5 e5 hy5 => ?_
      have e25 := (x2.trans e4).trans e5
      have ha5 : H5 D = some (.lst acc) := e25 _ _ ha
      have ex5 : Ex H1 H5 := x1.trans e25
      refine ⟨acc, ha5, ?_, Ex.mut ex5 hD, acc ++ [y], upd_same, ?_⟩
      · rw [dps_len hd, List.length_map]
        have q1 := List.length_filter_le p (xs.take i)
        have q2 : (xs.take i).length ≤ i := by
          rw [List.length_take]
          exact Nat.min_le_left _ _
        exact sz_lt (by omega)
      · rw [er_upd List.mem_cons_self, etk, List.filter_append, List.map_append, List.filter_cons, if_pos hp]
        exact dps_app (dps_mono (er_mono e25) _ _ hd) (.cons hy5 .nil)
    · rw [if_neg hp]
      have e24 := x2.trans e4
      refine ⟨x1.trans e24, acc, e24 _ _ ha, ?_⟩
      rw [etk, List.filter_append, List.map_append, List.filter_cons, if_neg hp]
      show DpAll K (er (D :: L) H4) acc (_ ++ [])
      rw [List.append_nil]
      exact dps_mono (er_mono e24) _ _ hd
  · rintro H' ⟨x1, acc, ha, hd⟩
    rw [List.take_length] at hd
    refine q H' x1 (.lst (.inl (.inl ?_)) (dps_mono (er_less fun a h => List.mem_cons_of_mem _ h) _ _ hd))
    rw [er_out nD]
    exact ha
theorem eg_lcF {α : Type} {enc : α → PyData} {xs : List α} (S : Src K wi Γ (xs.map enc)) (Γb : α → Ctx) (B : ∀ x ∈ xs, Bnd K g js (wipeC Γ vs) (enc x) (Γb x)) (p : α → Bool) (f : α → PyData) (hn : xs.length ≤ 1000)
    (ht : ∀ x ∈ xs, QG K tt (Γb x) (p x)) (he : ∀ x ∈ xs, p x = true → EG K te (Γb x) (f x)) (hjs : ∀ j ∈ js, j ∈ vs := by simp) : EG K (tLc wi g tt te vs) Γ (.list ((xs.filter p).map f)) := fun H0 M L σ H E Q q => by
  refine S.run H0 M L σ H E _ fun J H1 G Y e1 w hG hY => ?_
  have E1 := E.mono e1
  rw [List.length_map] at w hY
  intro D hD
  exact lcF_in E1 w (fun H' x => hG H' (er_mono x)) hY Γb B p f (Nat.le_trans hn (by decide)) ht he hjs hD fun H' x hd => q _ H' (e1.trans x) hd
/-- no tests -/
theorem eg_lc {α : Type} {enc : α → PyData} {xs : List α} (S : Src K wi Γ (xs.map enc)) (Γb : α → Ctx) (B : ∀ x ∈ xs, Bnd K g js (wipeC Γ vs) (enc x) (Γb x)) (f : α → PyData) (hn : xs.length ≤ 1000)
    (he : ∀ x ∈ xs, EG K te (Γb x) (f x)) (hjs : ∀ j ∈ js, j ∈ vs := by simp) : EG K (tLc wi g tYes te vs) Γ (.list (xs.map f)) := by
  have := eg_lcF (tt := tYes) (te := te) S Γb B (fun _ => true) f hn (fun _ _ => tg_yes) (fun x hx _ => he x hx) hjs
  rw [List.filter_eq_self.mpr (fun _ _ => rfl)] at this
  exact this
end
end HR

set_option Elab.async false
set_option linter.all false
set_option maxRecDepth 100000
set_option maxHeartbeats 0
namespace HR
open PySem PySem.Spec PyProof.Rows L2
/-! ### the text -/
def top (i : Nat) : Stmt := PySem.Challenge.pw_halfring_k38_whole_windows_amid_lots.main.body.getD i (.Pass ⟨0, 0, 0, 0⟩)
abbrev sIsNumber : Stmt := top 3
abbrev sIsFrom : Stmt := top 4
abbrev sTupled : Stmt := top 5
abbrev sIsWord : Stmt := top 9
abbrev sIsKey : Stmt := top 10
abbrev sIsSingle : Stmt := top 11
abbrev sIsRecord : Stmt := top 12
abbrev sSureRows : Stmt := top 13
abbrev sSureRecords : Stmt := top 14
abbrev sIsPart : Stmt := top 15
abbrev sPartsClosed : Stmt := top 16
abbrev sClosedRows : Stmt := top 17
abbrev sSureMany : Stmt := top 20
abbrev sNumbersLast : Stmt := top 21
abbrev sLastsIn : Stmt := top 22
abbrev sTableIn : Stmt := top 23
abbrev sWindowIn : Stmt := top 24
abbrev sWindowsIn : Stmt := top 25
abbrev sTableOf : Stmt := top 26
abbrev sLastWords : Stmt := top 27
abbrev sWindowOf : Stmt := top 28
abbrev sSpare : Stmt := top 29
abbrev sTablesBehind : Stmt := top 30
abbrev sFollows : Stmt := top 31
abbrev sUnbrokenIn : Stmt := top 32
abbrev sIsUnbroken : Stmt := top 33
abbrev sLawBox : Stmt := top 35
abbrev sLawTake : Stmt := top 36
abbrev sLawCells : Stmt := top 37
abbrev sLawOf : Stmt := top 38
abbrev sLawLists : Stmt := top 39
abbrev sLawSame : Stmt := top 40
abbrev sLawBlank : Stmt := top 41
abbrev sLawKeys : Stmt := top 42
abbrev sLawSingle : Stmt := top 43
abbrev sLawAct : Stmt := top 44
abbrev sLawParts : Stmt := top 45
abbrev sLawClosed : Stmt := top 46
abbrev sLawLore : Stmt := top 47
abbrev sLawLasts : Stmt := top 48
abbrev sLawFresh : Stmt := top 49
abbrev sLawRow : Stmt := top 50
abbrev sLawWhole : Stmt := top 51
abbrev sLawByHandRight : Stmt := top 52
abbrev sLawRight : Stmt := top 53
abbrev sLaw : Stmt := top 54
/-! ### the head: facts by names -/
def dd (x : Str) (st : Stmt) : He.DefD := ⟨(x, none), x, x, defArgs st, defBody st, defScope st, [], []⟩
def fns : List He.DefD := [dd "is_number" sIsNumber, dd "is_from" sIsFrom, dd "tupled" sTupled, dd "is_word" sIsWord, dd "is_key" sIsKey, dd "is_single" sIsSingle, dd "is_record" sIsRecord, dd "sure_rows" sSureRows, dd "sure_records" sSureRecords, dd "is_part" sIsPart, dd "parts_closed" sPartsClosed, dd "closed_rows" sClosedRows, dd "sure_many" sSureMany, dd "numbers_last" sNumbersLast, dd "lasts_in" sLastsIn, dd "table_in" sTableIn, dd "window_in" sWindowIn, dd "windows_in" sWindowsIn, dd "table_of" sTableOf, dd "last_words" sLastWords, dd "window_of" sWindowOf, dd "spare" sSpare, dd "tables_behind" sTablesBehind, dd "follows" sFollows, dd "unbroken_in" sUnbrokenIn, dd "is_unbroken" sIsUnbroken, dd "_law_box" sLawBox, dd "_law_take" sLawTake, dd "_law_cells" sLawCells, dd "_law_of" sLawOf, dd "_law_lists" sLawLists, dd "_law_same" sLawSame, dd "_law_blank" sLawBlank, dd "_law_keys" sLawKeys, dd "_law_single" sLawSingle, dd "_law_act" sLawAct, dd "_law_parts" sLawParts, dd "_law_closed" sLawClosed, dd "_law_lore" sLawLore, dd "_law_lasts" sLawLasts, dd "_law_fresh" sLawFresh, dd "_law_row" sLawRow, dd "_law_whole" sLawWhole, dd "_law_by_hand_right" sLawByHandRight, dd "_law_right" sLawRight, dd "law" sLaw]
def fas : List He.Fa := [.glo "is_number", .glo "is_from", .glo "tupled", .glo "is_word", .glo "is_key", .glo "is_single", .glo "is_record", .glo "sure_rows", .glo "sure_records", .glo "is_part", .glo "parts_closed", .glo "closed_rows", .glo "sure_many", .glo "numbers_last", .glo "lasts_in", .glo "table_in", .glo "window_in", .glo "windows_in", .glo "table_of", .glo "last_words", .glo "window_of", .glo "spare", .glo "tables_behind", .glo "follows", .glo "unbroken_in", .glo "is_unbroken", .glo "_law_box", .glo "_law_take", .glo "_law_cells", .glo "_law_of", .glo "_law_lists", .glo "_law_same", .glo "_law_blank", .glo "_law_keys", .glo "_law_single", .glo "_law_act", .glo "_law_parts", .glo "_law_closed", .glo "_law_lore", .glo "_law_lasts", .glo "_law_fresh", .glo "_law_row", .glo "_law_whole", .glo "_law_by_hand_right", .glo "_law_right", .glo "law", .free "len", .free "tuple", .free "isinstance", .free "range", .free "all", .free "str", .free "sorted", .free "int", .free "enumerate", .free "list", .free "zip", .free "bool", .free "min", .free "max", .free "dict", .free "abs", .str "SIGNS" "abcdefghijklmnopqrstuvwxyz0123456789", .int "LONGEST" 12, .glo "BLANK"]
def loose1 : List Str := ["Unfit", "SIGNS", "LONGEST", "BLANK", "is_number", "is_from", "tupled", "is_word", "is_key", "is_single", "is_record", "sure_rows", "sure_records", "is_part", "parts_closed", "closed_rows", "sure_many", "numbers_last", "lasts_in", "table_in", "window_in", "windows_in", "table_of", "last_words"]
def loose2 : List Str := ["window_of", "spare", "tables_behind", "follows", "unbroken_in", "is_unbroken", "_law_box", "_law_take", "_law_cells", "_law_of", "_law_lists", "_law_same", "_law_blank", "_law_keys", "_law_single", "_law_act", "_law_parts", "_law_closed", "_law_lore", "_law_lasts", "_law_fresh", "_law_row", "_law_whole", "_law_by_hand_right", "_law_right"]
def loose : List Str := loose1 ++ loose2
abbrev R : PySem.W.OpenRow := PySem.W.OpenLaw.row PySem.Challenge.rw_halfring_k38_whole_windows_amid_lots
/-- the blank's own tuple -/
def exB (K : PySem.W.Frag) : Bool := He.tupB K "BLANK" [.str "blank"]
def SaysB (K : PySem.W.Frag) : Prop := He.SaysD fas fns K ∧ exB K = true
def obsB (n : Nat) (g : Addr → Option Obj) : He.AlD × Bool := (He.obsD fas fns (He.frG g (He.asD g n)), exB (He.frG g (He.asD g n)))
def hookB (n : Nat) : PySem.W.Hook where
  α := He.AlD × Bool
  obs := fun s => obsB n s.heap.get?
  val := fun _ => (He.valD fns, true)
  says := fun _ h => ∃ K : PySem.W.Frag, K.In h ∧ SaysB K
  of := fun _ _ e => ⟨_, He.frG_in, congrArg (fun z : He.AlD × Bool => z.1) e, congrArg (fun z : He.AlD × Bool => z.2) e⟩
  keeps := fun _ _ _ ⟨K, hK, c⟩ k => ⟨K, PySem.W.Frag.In.keeps hK k, c⟩
theorem obsB_eq {n : Nat} {g : Addr → Option Obj} {s : Shared} (h : ∀ a, g a = s.heap.get? a) : obsB n g = (hookB n).obs s := by
  have e : g = s.heap.get? := funext h
  rw [e] <;> rfl
abbrev hk : PySem.W.Hook := hookB 4
def ob (s : PySem.W.SharedT) : He.AlD × Bool := obsB 4 (HandSHeadRun.getT s)
theorem ob_eq (s : PySem.W.SharedT) : ob s = hk.obs s.abs := obsB_eq (HandSHeadRun.getT_eq s)
theorem run (w : World) : HandSHeadRun.RunEq R (PySem.W.view R.prog [54]) hk ob 8000 loose w := by
  intro os
  kernel_rfl
end HR

set_option Elab.async false
set_option linter.all false
set_option maxRecDepth 100000
set_option maxHeartbeats 4000000
namespace HR
open PySem PySem.Spec PyProof.Rows L2 Evl

/-! ### what the top has written -/
structure Top (K : PySem.W.Frag) (mg : Str → Option Value) : Prop where
  says : SaysB K
  glo : ∀ x : Str, (He.Fa.glo x).ok K = true → mg x = some (.ref (He.ga K x))
  free : ∀ x : Str, (He.Fa.free x).ok K = true → mg x = none
  int : ∀ (x : Str) (i : Int), (He.Fa.int x i).ok K = true → ∃ t, mg x = some (.int i t)
  str : ∀ x z : Str, (He.Fa.str x z).ok K = true → ∃ t, mg x = some (.str z t)
section
variable {K : PySem.W.Frag} {mg : Str → Option Value}
theorem Top.of {h : Heap} (X : K.In h) (G : h.Ns mainGlobals mg) (c : SaysB K) : Top K mg := ⟨c, fun _ q => He.glo_ok X G q, fun _ q => He.free_ok X G q, fun _ _ q => He.int_ok X G q, fun _ _ q => He.str_ok X G q⟩
theorem Top.g (T : Top K mg) (i : Nat) {x : Str} (h : fas[i]? = some (.glo x) := by rfl) : mg x = some (.ref (He.ga K x)) := T.glo x (T.says.1.fact i h)
theorem Top.f (T : Top K mg) (i : Nat) {x : Str} (h : fas[i]? = some (.free x) := by rfl) : mg x = none := T.free x (T.says.1.fact i h)
theorem Top.lenN (T : Top K mg) : mg "len" = none := T.f 46
theorem Top.tupleN (T : Top K mg) : mg "tuple" = none := T.f 47
theorem Top.isinstanceN (T : Top K mg) : mg "isinstance" = none := T.f 48
theorem Top.rangeN (T : Top K mg) : mg "range" = none := T.f 49
theorem Top.allN (T : Top K mg) : mg "all" = none := T.f 50
theorem Top.strN (T : Top K mg) : mg "str" = none := T.f 51
theorem Top.sortedN (T : Top K mg) : mg "sorted" = none := T.f 52
theorem Top.intN (T : Top K mg) : mg "int" = none := T.f 53
theorem Top.enumerateN (T : Top K mg) : mg "enumerate" = none := T.f 54
theorem Top.listN (T : Top K mg) : mg "list" = none := T.f 55
theorem Top.zipN (T : Top K mg) : mg "zip" = none := T.f 56
theorem Top.boolN (T : Top K mg) : mg "bool" = none := T.f 57
theorem Top.minN (T : Top K mg) : mg "min" = none := T.f 58
theorem Top.maxN (T : Top K mg) : mg "max" = none := T.f 59
theorem Top.dictN (T : Top K mg) : mg "dict" = none := T.f 60
theorem Top.absN (T : Top K mg) : mg "abs" = none := T.f 61
theorem Top.signs (T : Top K mg) : ∃ t, mg "SIGNS" = some (.str "abcdefghijklmnopqrstuvwxyz0123456789" t) := T.str _ _ (T.says.1.fact 62 rfl)
theorem Top.longest (T : Top K mg) : ∃ t, mg "LONGEST" = some (.int 12 t) := T.int _ _ (T.says.1.fact 63 rfl)
theorem Top.blank (T : Top K mg) : mg "BLANK" = some (.ref (He.ga K "BLANK")) := T.g 64
theorem Top.blankT (T : Top K mg) (H : Hp) : SqT K H (He.ga K "BLANK") [.str "blank"] := He.tupB_ok T.says.2 H
theorem Top.fn (T : Top K mg) (i : Nat) {x : Str} {st : Stmt} (h : fns[i]? = some (dd x st) := by rfl) : ∃ fd, FunD K x x (defArgs st) (defBody st) (defScope st) [] [] (He.ga K x) fd := T.says.1.def_ i (d := dd x st) h
end

/-! ### defs of plain data -/
section
variable {P : Program} {w : World} {K : PySem.W.Frag} {mg : Str → Option Value} {base : Heap}
def Γ0 (n : Nat) (ds : List PyData) : Ctx := ds.map Ent.dat ++ List.replicate (n - ds.length) Ent.no
/-- a def that the promise is shown of by its body -/
theorem ok_def (T : Top K mg) (i j : Nat) {x : Str} {st : Stmt} {N ps : List Str} {k : Nat} {sp : Sp} (S : FnScope N ps (defScope st)) (len : ∀ vs H Q E, sp vs H Q E → vs.length = ps.length)
    (hb : ∀ (kV doc pm : Value) (an : Option Addr) (cdv ct : Value) (us : List Value), us.length = ps.length → bindArgs (PySem.W.fnOf x x (defArgs st) (defBody st) (defScope st) .none kV doc pm an cdv ct) ⟨us, []⟩ = pure (ps.zip us))
    (body : ∀ (cdv : Value) (A : Around) (outer : List PySem.Env) (s : Shared) (H : Hp) (vs : List V) (Q : VK) (E : XK), Room k (A.deeper (envOfC x (defScope st) s.heap.objs.size (He.ga K x) cdv)) → sp vs H Q E →
      ∃ t, PSs (cxOf CX0 P w K mg base N x (defScope st) (He.ga K x) cdv A outer s H E).nox (defBody st) t ∧ t { nx := fun _ H' => Q .non H', rt := Q } (L2.start N vs) H)
    (hi : fns[i]? = some (dd x st) := by rfl) (hj : fas[j]? = some (.glo x) := by rfl) : Ok P w K mg base (k + 1) x ps sp := by
  obtain ⟨fd, F⟩ := T.fn i hi
  have lk : ∃ (oc : Value) (od : Option Addr) (osl : Array (Option Value)), K.lookup (He.ga K x) = some ⟨oc, od, .func fd, osl⟩ := by
    obtain ⟨oc, od, dV, kV, doc, pm, an, cdv, ct, osl, _, l, _⟩ := F.ex
    exact ⟨oc, od, osl, l⟩
  refine ⟨He.ga K x, fd, F.ok S len fun cdv A outer s H vs Q E hr hsp => ?_, T.g j hj, F.kp, F.bindsN hb, lk⟩
  obtain ⟨t, h, q⟩ := body cdv A outer s H vs Q E hr hsp
  exact ⟨t, h.nox, q⟩
theorem ok_pure (T : Top K mg) (i : Nat) {x : Str} {st : Stmt} {N ps : List Str} {k : Nat} {P' : List PyData → PyData → Prop} (S : FnScope N ps (defScope st)) (hP : ∀ ds d, P' ds d → ds.length = ps.length)
    (hb : ∀ (kV doc pm : Value) (an : Option Addr) (cdv ct : Value) (us : List Value), us.length = ps.length → bindArgs (PySem.W.fnOf x x (defArgs st) (defBody st) (defScope st) .none kV doc pm an cdv ct) ⟨us, []⟩ = pure (ps.zip us))
    (body : ∀ (cdv : Value) (A : Around) (outer : List PySem.Env) (s : Shared) (H : Hp) (E : XK), Room k (A.deeper (envOfC x (defScope st) s.heap.objs.size (He.ga K x) cdv)) →
      ∃ t, PSs (cxOf CX0 P w K mg base N x (defScope st) (He.ga K x) cdv A outer s H E).nox (defBody st) t ∧ ∀ ds d, P' ds d → BG K t (Γ0 N.length ds) d)
    (hi : fns[i]? = some (dd x st) := by rfl) (hj : fas[i]? = some (.glo x) := by rfl) : Ok P w K mg base (k + 1) x ps (spD K P') := by
  refine ok_def T i i S (fun vs H Q E h => ?_) hb (fun cdv A outer s H vs Q E hr h => ?_) hi hj
  · obtain ⟨L, ds, d, _, hd, hp, _⟩ := h
    rw [dps_len hd, hP ds d hp]
  · obtain ⟨L, ds, d, hl, hd, hp, q⟩ := h
    obtain ⟨t, h1, h2⟩ := body cdv A outer s H E hr
    exact ⟨t, h1, h2 ds d hp H [] L _ H _ (env_start hl hd) q⟩
end
/-- the same def, called by its one parameter's name -/
structure OkK (P : Program) (w : World) (K : PySem.W.Frag) (mg : Str → Option Value) (base : Heap) (k : Nat) (x nm : Str) (ps : List Str) (sp : Sp) : Prop where
  ex : ∃ (f : Addr) (fd : FuncData), FnOk P w K mg base CX0 k f fd ps sp ∧ mg x = some (.ref f) ∧ PySem.W.keepIn K (.ref f) = true ∧ ∀ (s : Shared) (ws : List Value), ws.length = ps.length → BindsTo s fd ⟨[], [nm].zip ws⟩ (ps.zip ws)
section
variable {P : Program} {w : World} {K : PySem.W.Frag} {mg : Str → Option Value} {base : Heap}
theorem okK_of (T : Top K mg) (i : Nat) {x nm : Str} {st : Stmt} {ps : List Str} {k : Nat} {sp : Sp} (O : Ok P w K mg base k x ps sp)
    (hb : ∀ (kV doc pm : Value) (an : Option Addr) (cdv ct : Value) (ws : List Value), ws.length = 1 → bindArgs (PySem.W.fnOf x x (defArgs st) (defBody st) (defScope st) .none kV doc pm an cdv ct) ⟨[], [nm].zip ws⟩ = pure (ps.zip ws))
    (hp : ps.length = 1) (hi : fns[i]? = some (dd x st) := by rfl) (hj : fas[i]? = some (.glo x) := by rfl) : OkK P w K mg base k x nm ps sp := by
  obtain ⟨fd, F⟩ := T.fn i hi
  obtain ⟨f, fd0, O1, O2, O3, _, oc0, od0, osl0, lk0⟩ := O.ex
  have e := (T.g i hj).symm.trans O2
  cases e
  obtain ⟨oc, od, dV, kV, doc, pm, an, cdv, ct, osl, rfl, lk, hcd, hD, hK⟩ := F.ex
  have e2 := lk0.symm.trans lk
  cases e2
  refine ⟨_, _, O1, O2, O3, fun s ws hl => ?_⟩
  rcases hD with ⟨_, rfl⟩ | ⟨e, _⟩
  · exact .of_eq (hb kV doc pm an cdv ct ws (by rw [← hp]; exact hl))
  · exact absurd rfl e
end
section
variable {X : Cx} {k : Nat} {x : Str} {ps : List Str} {sp : Sp} {p pos : Pos}
/-- f(x = e), one parameter -/
theorem pe_calK {nm : Str} {e : Expr} {kpos : Pos} {te : TE} (O : OkK X.prog X.w X.K X.mg X.base k x nm ps sp) (hr : Room k X.A) (he : PE X e te)
    (hall : (backToKw pos (keywordEach [⟨nm, e, kpos⟩] X.env)).all (·.1.isSome) = true := by rfl) (hks : (backToKw pos (keywordEach [⟨nm, e, kpos⟩] X.env)).filterMap (·.1) = [nm] := by rfl)
    (hpl : ((backTo pos (starEach [] X.env)).any (·.1) || (backToKw pos (keywordEach [⟨nm, e, kpos⟩] X.env)).any (·.1.isNone)) = false := by rfl)
    (hg : Gl X x := by rfl) (hdb : (x == ("__debug__" : Str)) = false := by decide) : PE X (.Call (.Name x p) [] [⟨nm, e, kpos⟩] pos) (tCall sp [] E0 (tCons te tNil)) := by
  obtain ⟨f, fd, F, hm, hk, hb⟩ := O.ex
  refine ⟨fun pins s σ H Q I h => ?_⟩
  refine wpAny_Call_Name_kw (ld_glob I hg hm ?_ hdb)
  refine PySem.W.callWith_KW0 (h₀ := X.base) I.ok.mod.kin hk hall (thn ((pk_cons he pk_nil).run pos pins s σ H (fun zs H2 => sp (zs ++ []) H2 Q E0) I h) fun ws s2 ⟨zs, H2, I2, rz, q2⟩ => ⟨I2.kIn, ?_⟩) hpl
  rw [hks]
  have q3 : sp zs H2 Q E0 := by
    have q4 : sp (zs ++ []) H2 Q E0 := q2
    rw [List.append_nil] at q4
    exact q4
  have hl : ws.length = ps.length := by rw [← rz.length]; exact F.len _ _ _ _ q3
  refine wpAny_call (codeAny_mono (F.run X.A X.stack s2 H2 ⟨[], [nm].zip ws⟩ ws zs Q E0 hr I2.env0 (hb s2 ws hl) rz q3) fun r s' hq => ?_)
  cases r with
  | error e => exact pass0 pins σ H2 s2 e s' I2 hq
  | ok fl =>
    cases fl with
    | ret u => exact I2.after hq
    | next => exact False.elim hq
    | brk => exact False.elim hq
    | cont => exact False.elim hq
end
end HR

set_option Elab.async false
set_option linter.all false
set_option maxRecDepth 100000
set_option maxHeartbeats 4000000
namespace HR
open PySem PySem.Spec PyProof.Rows L2 Evl

/-! ### built-ins' rules by short names -/
section
variable {X : Cx}
theorem call_lenX : CallR X (.builtin "len") (rLenX X.K) := (call_len_seq (X := X)).or call_len_str
theorem call_min2X (hc : X.calm = true := by rfl) : CallR X (.builtin "min") rMin2 := call_min2 hc
theorem call_max2X (hc : X.calm = true := by rfl) : CallR X (.builtin "max") rMax2' := call_max2 hc
theorem call_absX : CallR X (.builtin "abs") rAbs := call_abs
theorem call_tupS : CallR X (.type "tuple") (rTupS X.K) := call_tuple_of
theorem call_listS : CallR X (.type "list") (rListS X.K) := call_list_of
theorem call_intX : CallR X (.type "int") rInt1 := call_int1
theorem op_inSg : OpR X (compareOp .In) rInSg := op_in_sign
end
/-! ### tuple * a number that is not above 0 -/
theorem tuple_mulW0 (l : Addr) (items : Array Value) (n : Nat) (dd : Option Addr) (sl : Array (Option Value)) (x : Int) (u : Tok) (c0 : (decide (x < -(2 ^ 63)) || decide (x ≥ 2 ^ 63)) = false) (c1 : (items.isEmpty || x == 1) = false) (c2 : (decide (x ≤ 0) || items.isEmpty) = true) :
    Meets (Builtin.«tuple.__mul__» ⟨[.ref l, .int x u], []⟩) (fun _ R s => s.heap.get? l = some { cls := .type "tuple", dict := dd, data := .seq items n, slots := sl } ∧
      R (.ok (.ret (Value.ref s.heap.objs.size))) { s with heap := s.heap.push { cls := Value.type "tuple", data := Data.seq #[] }, toks := s.toks }) :=
  .of_wp fun prog w A R s h => by
    obtain ⟨hp, g, d, tk, os⟩ := s
    obtain ⟨hl, h⟩ := h
    have f1 := AutoSeq1.idx_int
    wp_walk using AutoSeq1.wpAny_loadPart' hl
    repeat (first
      | (refine wpAny_ite_false (decide_eq_false (by rw [c0]; exact Bool.false_ne_true)) ?_; wp_walk using AutoSeq1.wpAny_loadPart' hl)
      | (refine wpAny_ite_false (decide_eq_false (by rw [c1]; exact Bool.false_ne_true)) ?_; wp_walk using AutoSeq1.wpAny_loadPart' hl)
      | (refine wpAny_ite_true (decide_eq_true c2) ?_; wp_walk using AutoSeq1.wpAny_loadPart' hl))
    exact ⟨_, rfl, h⟩
def rRepT0 (K : PySem.W.Frag) : R2 := fun x y H Q => ∃ l k xs, x = .ref l ∧ y = .int k ∧ SqT K H l xs ∧ xs ≠ [] ∧ k ≤ 0 ∧ -1000 ≤ k ∧ ∀ p, H p = none → Q (.ref p) (upd H p (.tup []))
theorem op_repT0 {X : Cx} : OpR X (binaryOp .Mult) (rRepT0 X.K) := by
  intro pins s σ H x y v u Q I rx ry h
  obtain ⟨l, k, xs, rfl, rfl, hT, hne, h1, h2, q⟩ := h
  cases rx
  obtain ⟨t, rfl⟩ := ry
  obtain ⟨its, r, ⟨⟨cls, dd, data, sl⟩, ho, hc, n, hd⟩, hs⟩ := I.tuple hT
  simp only at hc hd
  subst hc hd
  have hi : its.toArray.isEmpty = false := by
    cases r with
    | nil => exact absurd rfl hne
    | cons a b => rfl
  have c0 : (decide (k < -(2 ^ 63)) || decide (k ≥ 2 ^ 63)) = false := by
    rw [decide_eq_false (by omega), decide_eq_false (by omega)] <;> rfl
  have c1 : (its.toArray.isEmpty || k == 1) = false := by
    rw [hi, Bool.false_or]
    exact beq_eq_false_iff_ne.mpr (by omega)
  have c2 : (decide (k ≤ 0) || its.toArray.isEmpty) = true := by
    rw [decide_eq_true h1, Bool.true_or]
  refine wpAny_binaryOp_repeat_ref (T := "tuple") (U := "int") (by decide) ⟨_, ho, rfl⟩ (fun s' => typeIs_int s' k t) noFill_tuple_mul F.fills_int_mul F.slot_int_rmul repeat_tuple F.slot_int_index.lookup
    (call_meets F.slot_int_rmul (typeIs_int s k t) F.entry_int_rmul (F.args_int_rmul_2 _ _) (int_rmul_tuple k t l its.toArray n dd sl)
      ⟨ho, rfl, ⟨_, ho, rfl⟩, call_meets F.slot_tuple_mul ⟨_, ho, rfl⟩ F.entry_tuple_mul (F.args_tuple_mul_2 _ _) (tuple_mulW0 l its.toArray n dd sl k t c0 c1 c2) ⟨ho, ?_⟩⟩)
  refine ⟨.ref s.heap.objs.size, _, I.laid (t' := s.toks) (o := .tup []) (fun b ob q => Heap.get?_push_of_some _ q) (Nat.le_refl _) ?_, rfl, q _ (I.hok.fresh (Nat.le_refl _))⟩
  exact ⟨Nat.zero_le _, [], .nil, IsTup.new _ _⟩
theorem eg_rep0 {K : PySem.W.Frag} {Γ : Ctx} {ta tb : TE} {ds : List PyData} {k : Int} (ha : EG K ta Γ (.tuple ds)) (hb : EG K tb Γ (.int k)) (hne : ds ≠ []) (h1 : k ≤ 0) (h2 : -1000 ≤ k) : EG K (tOp (rRepT0 K) ta tb) Γ (.tuple []) := fun H0 M L σ H E Q q =>
  ha H0 M L σ H E _ fun v H1 e1 h3 => hb H0 M L σ H1 (E.mono e1) _ fun w H2 e2 h4 => by
    cases h3 with
    | @tup a xs _ hs hv =>
      cases h4
      have hx : xs ≠ [] := fun e => hne (by
        rw [e] at hv
        cases hv
        rfl)
      refine ⟨a, k, xs, rfl, rfl, ex_t e2 (ex_t (er_ex L H1) hs), hx, h1, h2, fun p hp => ?_⟩
      have np := (E.mono (e1.trans e2)).fresh hp
      have e4 := Ex.new (o := .tup []) hp
      refine q _ _ ((e1.trans e2).trans e4) (.tup (.inl (.inl ?_)) .nil)
      rw [er_out np]
      exact upd_same
theorem eg_blank {K : PySem.W.Frag} {mg : Str → Option Value} {Γ : Ctx} (T : Top K mg) : EG K (tC (.ref (He.ga K "BLANK"))) Γ (.tuple [.str "blank"]) := fun H0 M L σ H E Q q =>
  q _ H (Ex.refl H) (.tup (T.blankT (er L H)) (.cons (.str _) .nil))

/-! ### a dict that is locked for good when it is walked -/
def tLockA (t : TE) : TE := fun σ H Q => t σ H fun x H1 => ∃ d u, x = .ref d ∧ H1 d = some u ∧ Mut (some u) ∧ ∀ od, Q x (upd H1 d (.frz od u))
theorem pe_lockA {X : Cx} {e : Expr} {t : TE} (h : PE X e t) : PE X e (tLockA t) := ⟨fun pins s σ H Q I hw => by
  refine thn (h.run pins s σ H _ I hw) fun v s1 ⟨x, H1, I1, r1, d, u, hx, hd, mu, q⟩ => ?_
  obtain ⟨od, I2⟩ := I1.lock hd mu
  exact ⟨x, _, I2, r1, q od⟩⟩
end HR

set_option Elab.async false
set_option linter.all false
set_option maxRecDepth 100000
set_option maxHeartbeats 4000000
namespace HR
open PySem PySem.Spec PyProof.Rows L2 Evl
/-! ### statements, what a def may change told -/
section
variable {K : PySem.W.Frag} {H0 H : Hp} {M L : List Addr} {σ : L2.St} {Γ : Ctx} {te : TE} {t : TT} {ts tz tb : TS} {D : Ends} {d : PyData} {b : Bool}
theorem sg_asg {i : Nat} (E : Env K H0 M L σ H Γ) (h : EG K te Γ d) (k : ∀ σ' H', Ex H H' → Env K H0 M L σ' H' (Γ.set i (.dat d)) → tz D σ' H') (hi : i < Γ.length := by exact Nat.le_of_ble_eq_true rfl) : tSeq (tAsg te (gName i)) tz D σ H :=
  h H0 M L σ H E _ fun v H1 e1 h1 => k _ H1 e1 ((E.mono e1).set hi h1)
theorem sl_asg {i : Nat} (E : Env K H0 M L σ H Γ) (h : EG K te Γ d) (k : ∀ σ' H', Ex H H' → Env K H0 M L σ' H' (Γ.set i (.dat d)) → D.nx σ' H') (hi : i < Γ.length := by exact Nat.le_of_ble_eq_true rfl) : tAsg te (gName i) D σ H :=
  h H0 M L σ H E _ fun v H1 e1 h1 => k _ H1 e1 ((E.mono e1).set hi h1)
theorem sg_if (E : Env K H0 M L σ H Γ) (h : QG K t Γ b) (h1 : b = true → ∀ H', Ex H H' → Env K H0 M L σ H' Γ → ts { D with nx := tz D } σ H') (h2 : b = false → ∀ H', Ex H H' → Env K H0 M L σ H' Γ → tz D σ H') : tSeq (tIfS t ts tNext) tz D σ H := h H0 M L σ H E _ fun H1 e1 => by
  cases b with
  | true =>
    rw [if_pos rfl]
    exact h1 rfl H1 e1 (E.mono e1)
  | false =>
    rw [if_neg Bool.false_ne_true]
    exact h2 rfl H1 e1 (E.mono e1)
theorem sl_if (E : Env K H0 M L σ H Γ) (h : QG K t Γ b) (h1 : b = true → ∀ H', Ex H H' → Env K H0 M L σ H' Γ → ts D σ H') (h2 : b = false → ∀ H', Ex H H' → Env K H0 M L σ H' Γ → D.nx σ H') : tIfS t ts tNext D σ H := h H0 M L σ H E _ fun H1 e1 => by
  cases b with
  | true =>
    rw [if_pos rfl]
    exact h1 rfl H1 e1 (E.mono e1)
  | false =>
    rw [if_neg Bool.false_ne_true]
    exact h2 rfl H1 e1 (E.mono e1)
theorem sl_ret (E : Env K H0 M L σ H Γ) (h : EG K te Γ d) (k : ∀ v H', Ex H H' → Env K H0 M L σ H' Γ → Dp K (er L H') v d → D.rt v H') : tRet te D σ H := h H0 M L σ H E _ fun v H1 e1 h1 => k v H1 e1 (E.mono e1) h1
theorem Env.forget (E : Env K H0 M L σ H Γ) (i : Nat) : Env K H0 M L σ H (Γ.set i .no) := E.weak (by rw [List.length_set]) fun j e h => by
  by_cases q : i = j
  · subst q
    by_cases hi : i < Γ.length
    · rw [List.getElem?_set_self hi] at h
      exact .inl (Option.some.inj h).symm
    · rw [List.getElem?_eq_none (by rw [List.length_set]; omega)] at h
      cases h
  · rw [List.getElem?_set_ne q] at h
    exact .inr h
theorem Env.rebase (E : Env K H0 M L σ H Γ) : Env K (er M H) M L σ H Γ := ⟨E.len, E.live, E.sub, Ex.refl _, E.ent⟩
theorem Env.unbase {B : Hp} (h : Ex H0 B) (E : Env K B M L σ H Γ) : Env K H0 M L σ H Γ := ⟨E.len, E.live, E.sub, h.trans E.base, E.ent⟩
theorem er_up {H1 H2 : Hp} (hs : ∀ a ∈ M, a ∈ L) (e : Ex (er M H1) (er M H2)) : Ex (er L H1) (er L H2) := fun a o h => by
  obtain ⟨m, h1⟩ := er_some h
  have h2 : er M H1 a = some o := by
    rw [er_out fun q => m (hs a q)]
    exact h1
  rw [er_out m]
  exact (er_some (e _ _ h2)).2
/-- a loop -/
theorem sg_for {α : Type} {enc : α → PyData} {xs : List α} {wi : TI} {g : TG} {js : List Nat} (Γi : Nat → Ctx) (Γb : Nat → α → Ctx) (E : Env K H0 M L σ H (Γi 0)) (S : Src K wi (Γi 0) (xs.map enc)) (B : ∀ i x, xs[i]? = some x → Bnd K g js (Γi i) (enc x) (Γb i x))
    (body : ∀ i x B' σ' H' (N : L2.St → Hp → Prop), xs[i]? = some x → Ex H0 B' → Env K B' M L σ' H' (Γb i x) → (∀ σ'' H'', Env K B' M L σ'' H'' (Γi (i + 1)) → N σ'' H'') → tb { D with nx := N, ct := N, bk := tz D } σ' H')
    (done : ∀ σ' H', Env K H0 M L σ' H' (Γi xs.length) → tz D σ' H') : tSeq (tFor wi g tb) tz D σ H := by
  refine S.run H0 M L σ H E _ fun J H1 G Y e1 w hG hY => ?_
  rw [List.length_map] at w hY
  have E1 := E.mono e1
  refine for_it (D := { D with nx := tz D }) w (fun i σ' H' => Env K (er M H1) M L σ' H' (Γi i)) E1.rebase (fun i σ' H' _ E' => hG H' (er_up E1.sub E'.base)) ?_ (fun σ' H' E' => done σ' H' (E'.unbase E1.base))
  intro i x σ' H2 H3 hi E2 hy
  obtain ⟨e3, d, hd, hdp⟩ := hY L i x H2 H3 hi (er_up E1.sub E2.base) E2.live hy
  have hxi : xs[i]? = some xs[i] := List.getElem?_eq_getElem hi
  have ed : d = enc xs[i] := by
    rw [List.getElem?_map, hxi] at hd
    exact (Option.some.inj hd).symm
  subst ed
  exact (B i _ hxi).run (er M H1) M L σ' H3 x (E2.mono e3) hdp _ fun σ4 E4 _ => body i _ (er M H1) σ4 H3 _ hxi E1.base E4 fun _ _ E5 => E5
theorem sl_for {α : Type} {enc : α → PyData} {xs : List α} {wi : TI} {g : TG} {js : List Nat} (Γi : Nat → Ctx) (Γb : Nat → α → Ctx) (E : Env K H0 M L σ H (Γi 0)) (S : Src K wi (Γi 0) (xs.map enc)) (B : ∀ i x, xs[i]? = some x → Bnd K g js (Γi i) (enc x) (Γb i x))
    (body : ∀ i x B' σ' H' (N : L2.St → Hp → Prop), xs[i]? = some x → Ex H0 B' → Env K B' M L σ' H' (Γb i x) → (∀ σ'' H'', Env K B' M L σ'' H'' (Γi (i + 1)) → N σ'' H'') → tb { D with nx := N, ct := N, bk := D.nx } σ' H')
    (done : ∀ σ' H', Env K H0 M L σ' H' (Γi xs.length) → D.nx σ' H') : tFor wi g tb D σ H :=
  sg_for (tz := fun D σ H => D.nx σ H) Γi Γb E S B body done
/-! ### a list of this def's own -/
theorem sg_newL {i : Nat} (E : Env K H0 M L σ H Γ) (k : ∀ p σ' H', H p = none → p ∉ L → Ex H H' → Env K H0 (p :: M) (p :: L) σ' H' (Γ.set i (.lst p [])) → tz D σ' H') (hi : i < Γ.length := by exact Nat.le_of_ble_eq_true rfl) : tSeq (tAsg (tLst tNil) (gName i)) tz D σ H :=
  ⟨Nat.zero_le _, fun p hp => k p _ _ hp (E.fresh hp) (Ex.new hp) ((E.more hp).put hi ⟨[], rfl, List.mem_cons_self, upd_same, .nil⟩)⟩
def Ent.addr : Ent → Option Addr
  | .lst a _ => some a
  | .dk a _ => some a
  | .tin a _ => some a
  | .fz a _ => some a
  | _ => none
/-- the i-th slot alone speaks of what changes -/
def alone (Γ : Ctx) (i : Nat) : Prop := ∀ j e, j ≠ i → Γ[j]? = some e → e.addr = none
theorem alone_of {Γ : Ctx} {i : Nat} (h : ((Γ.set i .no).all fun e => e.addr.isNone) = true) : alone Γ i := fun j e hj he => by
  have m : e ∈ Γ.set i .no := by
    refine List.mem_of_getElem? (i := j) ?_
    rw [List.getElem?_set_ne (Ne.symm hj)]
    exact he
  exact Option.isNone_iff_eq_none.mp (List.all_eq_true.mp h e m)
theorem Env.mut {i : Nat} {a : Addr} {ds ds' : List PyData} {vs' : List V} (E : Env K H0 M L σ H Γ) (hi : Γ[i]? = some (.lst a ds)) (ha : a ∈ M) (al : alone Γ i) (hd : DpAll K (er L H) vs' ds') : Env K H0 M L σ (upd H a (.lst vs')) (Γ.set i (.lst a ds')) := by
  have aL := E.sub a ha
  have e1 : er L (upd H a (.lst vs')) = er L H := er_upd aL
  have e0 : er M (upd H a (.lst vs')) = er M H := er_upd ha
  refine ⟨by rw [List.length_set]; exact E.len, fun c hc => ?_, E.sub, by rw [e0]; exact E.base, fun j e he => ?_⟩
  · by_cases q : c = a
    · rw [q]
      exact ⟨_, upd_same⟩
    · obtain ⟨o, ho⟩ := E.live c hc
      exact ⟨o, by rw [upd_ne q]; exact ho⟩
  · by_cases q : i = j
    · subst q
      have hlt := (List.getElem?_eq_some_iff.mp hi).1
      rw [List.getElem?_set_self hlt] at he
      cases Option.some.inj he
      obtain ⟨vs, h1, h2, h3, h4⟩ := E.ent i _ hi
      exact ⟨vs', h1, h2, upd_same, by rw [e1]; exact hd⟩
    · rw [List.getElem?_set_ne q] at he
      have k := E.ent j e he
      have ad := al j e (Ne.symm q) he
      cases e with
      | no => trivial
      | dat d =>
        obtain ⟨v, h1, h2⟩ := k
        exact ⟨v, h1, by rw [e1]; exact h2⟩
      | fn f => exact k
      | fz c kvs => cases ad
      | rd c kvs =>
        obtain ⟨vs, h1, h3, h4⟩ := k
        exact ⟨vs, h1, by rw [e1]; exact h3, by rw [e1]; exact h4⟩
      | lst c ds => cases ad
      | dk c kvs => cases ad
      | tin c n => cases ad
theorem lst_at {i : Nat} {a : Addr} {ds : List PyData} (E : Env K H0 M L σ H Γ) (hi : Γ[i]? = some (.lst a ds)) : ∃ vs, σ[i]? = some (some (.ref a)) ∧ a ∈ L ∧ H a = some (.lst vs) ∧ DpAll K (er L H) vs ds := E.ent i _ hi
/-- found.append(e) -/
theorem sl_app {i : Nat} {a : Addr} {ds : List PyData} (E : Env K H0 M L σ H Γ) (hi : Γ[i]? = some (.lst a ds)) (ha : a ∈ M) (h : EG K te Γ d) (hz : ds.length ≤ 1000) (k : ∀ H', Env K H0 M L σ H' (Γ.set i (.lst a (ds ++ [d]))) → D.nx σ H')
    (al : ((Γ.set i .no).all fun e => e.addr.isNone) = true := by rfl) : tDrop (tBM K "list" rAppend (tVar i) (tCons te tNil)) D σ H := by
  obtain ⟨vs, h1, h2, h3, h4⟩ := lst_at E hi
  refine ⟨_, h1, .inl ⟨rfl, vs, .inl (.inl h3)⟩, h H0 M L σ H E _ fun v H1 e1 hv => ⟨a, vs, v, rfl, rfl, e1 _ _ h3, ?_, ?_⟩⟩
  · rw [dps_len h4]
    exact sz_lt (by omega)
  · exact k _ ((E.mono e1).mut hi ha (alone_of al) (dps_app (dps_mono (er_mono e1) _ _ h4) (.cons hv .nil)))
/-- the list handed back -/
theorem sl_retL {i : Nat} {a : Addr} {ds : List PyData} (E : Env K H0 M L σ H Γ) (hi : Γ[i]? = some (.lst a ds)) (k : ∀ vs, H a = some (.lst vs) → DpAll K (er L H) vs ds → D.rt (.ref a) H) : tRet (tVar i) D σ H := by
  obtain ⟨vs, h1, h2, h3, h4⟩ := lst_at E hi
  exact ⟨_, h1, k vs h3 h4⟩
end
/-- at the end of a def that made one list -/
theorem end_list {K : PySem.W.Frag} {Hs H : Hp} {p : Addr} {L : List Addr} {σ : L2.St} {Γ : Ctx} {vs : List V} {ds : List PyData} (E : Env K Hs [p] (p :: L) σ H Γ) (np : p ∉ L) (h : H p = some (.lst vs)) (hd : DpAll K (er (p :: L) H) vs ds) : Ex Hs H ∧ Dp K (er L H) (.ref p) (.list ds) := by
  refine ⟨E.base.trans (er_ex _ _), .lst (.inl (.inl ?_)) (dps_mono (er_less fun a m => List.mem_cons_of_mem _ m) _ _ hd)⟩
  rw [er_out np]
  exact h
end HR

set_option Elab.async false
set_option linter.all false
namespace HR
open PySem PySem.Spec L2

/-- a record -/
inductive Rec where
  | blank
  | put (k w : Str) (p l : Nat)
  | drop (k : Str) (p l : Nat)
  deriving DecidableEq
def encL : Rec → List PyData
  | .blank => [.str "blank"]
  | .put k w p l => [.str "put", .str k, .str w, .int (p : Nat), .int (l : Nat)]
  | .drop k p l => [.str "drop", .str k, .int (p : Nat), .int (l : Nat)]
def enc (r : Rec) : PyData := .tuple (encL r)
def Rec.tag : Rec → Str
  | .blank => "blank"
  | .put _ _ _ _ => "put"
  | .drop _ _ _ => "drop"
def rowD (rs : List Rec) : PyData := .tuple (rs.map enc)
def isPart (r : Rec) (p l : Int) : Bool := match r with
  | .blank => false
  | .put _ _ p' l' => (p' : Int) == p && (l' : Int) == l
  | .drop _ p' l' => (p' : Int) == p && (l' : Int) == l
def Rec.place : Rec → Nat
  | .blank => 0
  | .put _ _ p _ => p
  | .drop _ p _ => p
def Rec.left : Rec → Nat
  | .blank => 0
  | .put _ _ _ l => l
  | .drop _ _ l => l
def Rec.isBlank : Rec → Bool
  | .blank => true
  | _ => false
theorem at_0 (r : Rec) : L2.atI (encL r) 0 = some (.str r.tag) := by cases r <;> rfl
theorem at_m1 {r : Rec} (h : r.isBlank = false) : L2.atI (encL r) (-1) = some (.int (r.left : Nat)) := by
  cases r with
  | blank => cases h
  | put k w p l => rfl
  | drop k p l => rfl
theorem at_m2 {r : Rec} (h : r.isBlank = false) : L2.atI (encL r) (-2) = some (.int (r.place : Nat)) := by
  cases r with
  | blank => cases h
  | put k w p l => rfl
  | drop k p l => rfl
theorem tag_blank (r : Rec) : decide (r.tag = ("blank" : Str)) = r.isBlank := by
  cases r with
  | blank => rfl
  | put k w p l => exact decide_eq_false (show ¬ ("put" : Str) = "blank" by decide)
  | drop k p l => exact decide_eq_false (show ¬ ("drop" : Str) = "blank" by decide)
/-- the record at a number -/
def recAt (rs : List Rec) (i : Nat) : Rec := rs.getD i .blank
def partOk (rs : List Rec) (i p j : Nat) : Bool := isPart (recAt rs (i - (1 + j))) ((p : Int) - ((1 + j : Nat) : Int)) ((1 + j : Nat) : Int)
/-- how many records a record closes -/
def partsClosed (rs : List Rec) (i : Nat) : Nat :=
  if (recAt rs i).isBlank || !decide ((recAt rs i).left = 0) then 0
  else if (List.range (min (recAt rs i).place i)).all (partOk rs i (recAt rs i).place) then min (recAt rs i).place i + 1 else 0
/-- a record without its numbers -/
def encSL : Rec → List PyData
  | .blank => []
  | .put k w _ _ => [.str "put", .str k, .str w]
  | .drop k _ _ => [.str "drop", .str k]
def encS (r : Rec) : PyData := .tuple (encSL r)
/-- the records of the lot that closes at i -/
def lotAt (rs : List Rec) (i : Nat) : List Rec := (rs.drop (i + 1 - partsClosed rs i)).take (partsClosed rs i)
/-- the numbers that close, ahead of n -/
def closing (rs : List Rec) (n : Nat) : List Nat := (List.range n).filter fun i => decide (0 < partsClosed rs i)
def closedD (rs : List Rec) (n : Nat) : List PyData := (closing rs n).map fun i => .tuple [.int (i : Nat), .tuple ((lotAt rs i).map encS)]
theorem closing_yes {rs : List Rec} {n : Nat} (h : 0 < partsClosed rs n) : closing rs (n + 1) = closing rs n ++ [n] := by
  unfold closing
  rw [List.range_succ, List.filter_append, List.filter_cons, if_pos (decide_eq_true h)]
  rfl
theorem closing_no {rs : List Rec} {n : Nat} (h : ¬ 0 < partsClosed rs n) : closing rs (n + 1) = closing rs n := by
  unfold closing
  rw [List.range_succ, List.filter_append, List.filter_cons, if_neg (by rw [decide_eq_false h]; exact Bool.false_ne_true)]
  show _ ++ [] = _
  rw [List.append_nil]
theorem closing_len (rs : List Rec) (n : Nat) : (closing rs n).length ≤ n := by
  have := List.length_filter_le (fun i => decide (0 < partsClosed rs i)) (List.range n)
  rw [List.length_range] at this
  exact this
theorem parts_le (rs : List Rec) (i : Nat) : partsClosed rs i ≤ i + 1 := by
  unfold partsClosed
  split
  · omega
  · split
    · have := Nat.min_le_right (recAt rs i).place i
      omega
    · omega
/-! ### dicts, as lists of pairs -/
def putP {α : Type} (kvs : List (Key × α)) (k : Key) (v : α) : List (Key × α) :=
  if (kvs.any fun kv => decide (kv.1 = k)) = true then kvs.map (fun kv => if kv.1 = k then (kv.1, v) else kv) else kvs ++ [(k, v)]
def getP {α : Type} (kvs : List (Key × α)) (k : Key) : Option α := (kvs.find? fun kv => decide (kv.1 = k)).map (·.2)
theorem putP_len {α : Type} (kvs : List (L2.Key × α)) (k : L2.Key) (v : α) : (putP kvs k v).length ≤ kvs.length + 1 := by
  unfold putP
  split
  · rw [List.length_map]
    omega
  · rw [List.length_append]
    exact Nat.le_refl _
theorem any_key {α : Type} {kvs : List (L2.Key × α)} {k : L2.Key} : (kvs.any fun kv => decide (kv.1 = k)) = true ↔ k ∈ kvs.map (·.1) := by
  rw [List.any_eq_true, List.mem_map]
  constructor
  · rintro ⟨x, h, e⟩
    exact ⟨x, h, of_decide_eq_true e⟩
  · rintro ⟨x, h, e⟩
    exact ⟨x, h, decide_eq_true e⟩
theorem putP_old {α : Type} {kvs : List (L2.Key × α)} {k : L2.Key} (v : α) (h : k ∈ kvs.map (·.1)) : (putP kvs k v).map (·.1) = kvs.map (·.1) := by
  unfold putP
  rw [if_pos (any_key.mpr h), List.map_map]
  refine List.map_congr_left fun x _ => ?_
  show (if x.1 = k then (x.1, v) else x).1 = x.1
  split <;> rfl
theorem putP_add {α : Type} {kvs : List (L2.Key × α)} {k : L2.Key} (v : α) (h : k ∉ kvs.map (·.1)) : (putP kvs k v).map (·.1) = kvs.map (·.1) ++ [k] := by
  unfold putP
  rw [if_neg (fun z => h (any_key.mp z)), List.map_append]
  rfl
theorem putP_nodup {α : Type} {kvs : List (L2.Key × α)} (k : L2.Key) (v : α) (h : (kvs.map (·.1)).Nodup) : ((putP kvs k v).map (·.1)).Nodup := by
  by_cases hk : k ∈ kvs.map (·.1)
  · rw [putP_old v hk]
    exact h
  · rw [putP_add v hk, List.nodup_append]
    exact ⟨h, by simp, fun a ha b hb e => hk (by
      rw [List.mem_singleton] at hb
      rw [← hb, ← e]
      exact ha)⟩
theorem putP_new {α : Type} {kvs : List (L2.Key × α)} {k : L2.Key} (v : α) (h : k ∉ kvs.map (·.1)) : putP kvs k v = kvs ++ [(k, v)] := by
  unfold putP
  rw [if_neg fun z => h (any_key.mp z)]
def keyS : L2.Key → Str
  | .inl _ => ""
  | .inr x => x
/-- putting again what has different keys -/
theorem put_again {α : Type} : ∀ (xs acc : List (L2.Key × α)), (∀ x ∈ xs, ∃ z, x.1 = .inr z) → ((acc ++ xs).map (·.1)).Nodup → xs.foldl (fun kv x => putP kv (.inr (keyS x.1)) x.2) acc = acc ++ xs
  | [], acc, _, _ => (List.append_nil _).symm
  | x :: xs, acc, hk, hn => by
    obtain ⟨z, hz⟩ := hk x List.mem_cons_self
    have e : (.inr (keyS x.1) : L2.Key) = x.1 := by rw [hz]; rfl
    have nx : x.1 ∉ acc.map (·.1) := fun m => by
      rw [List.map_append, List.nodup_append] at hn
      exact hn.2.2 _ m _ List.mem_cons_self rfl
    rw [List.foldl_cons, e, putP_new _ nx, put_again xs (acc ++ [(x.1, x.2)]) (fun y hy => hk y (List.mem_cons_of_mem _ hy)) (by rw [List.append_assoc]; exact hn), List.append_assoc]
    rfl
/-! ### what the closed lots say, one behind another -/
def Rec.key : Rec → Str
  | .blank => ""
  | .put k _ _ _ => k
  | .drop k _ _ => k
def Rec.word : Rec → Str
  | .put _ w _ _ => w
  | _ => ""
def Rec.isPut : Rec → Bool
  | .put _ _ _ _ => true
  | _ => false
def lotEnts (rs : List Rec) (i : Nat) : List (Nat × Rec) := (lotAt rs i).zipIdx.map fun p => (i + 1 - (lotAt rs i).length + p.2, p.1)
def flatOf (rs : List Rec) (is : List Nat) : List (Nat × Rec) := is.flatMap (lotEnts rs)
def flat (rs : List Rec) : List (Nat × Rec) := flatOf rs (closing rs rs.length)
def dictBy {α : Type} (f : Nat × Rec → α) (fl : List (Nat × Rec)) : List (L2.Key × α) := fl.foldl (fun kv x => putP kv (.inr x.2.key) (f x)) []
theorem dictBy_snoc {α : Type} (f : Nat × Rec → α) (fl : List (Nat × Rec)) (x : Nat × Rec) : dictBy f (fl ++ [x]) = putP (dictBy f fl) (.inr x.2.key) (f x) := by
  unfold dictBy
  rw [List.foldl_append]
  rfl
theorem dictBy_len {α : Type} (f : Nat × Rec → α) : ∀ fl : List (Nat × Rec), (dictBy f fl).length ≤ fl.length := by
  intro fl
  have g : ∀ (l : List (Nat × Rec)) (acc : List (L2.Key × α)), (l.foldl (fun kv x => putP kv (.inr x.2.key) (f x)) acc).length ≤ acc.length + l.length := by
    intro l
    induction l with
    | nil => intro acc; exact Nat.le_refl _
    | cons x l ih =>
      intro acc
      have h1 := ih (putP acc (.inr x.2.key) (f x))
      have h2 := putP_len acc (.inr x.2.key) (f x)
      rw [List.foldl_cons, List.length_cons]
      omega
  have := g fl []
  rw [List.length_nil, Nat.zero_add] at this
  exact this
theorem dictBy_nodup {α : Type} (f : Nat × Rec → α) (fl : List (Nat × Rec)) : ((dictBy f fl).map (·.1)).Nodup := by
  have g : ∀ (l : List (Nat × Rec)) (acc : List (L2.Key × α)), (acc.map (·.1)).Nodup → ((l.foldl (fun kv x => putP kv (.inr x.2.key) (f x)) acc).map (·.1)).Nodup := by
    intro l
    induction l with
    | nil => intro acc h; exact h
    | cons x l ih =>
      intro acc h
      exact ih _ (putP_nodup _ _ h)
  exact g fl [] List.nodup_nil
theorem dictBy_inr {α : Type} (f : Nat × Rec → α) (fl : List (Nat × Rec)) : ∀ x ∈ dictBy f fl, ∃ z, x.1 = .inr z := by
  have g : ∀ (l : List (Nat × Rec)) (acc : List (L2.Key × α)), (∀ x ∈ acc, ∃ z, x.1 = .inr z) → ∀ x ∈ l.foldl (fun kv x => putP kv (.inr x.2.key) (f x)) acc, ∃ z, x.1 = .inr z := by
    intro l
    induction l with
    | nil => intro acc h; exact h
    | cons y l ih =>
      intro acc h
      refine ih _ fun x hx => ?_
      have hk : x.1 ∈ (putP acc (.inr y.2.key) (f y)).map (·.1) := List.mem_map_of_mem hx
      by_cases hy : (Sum.inr y.2.key : L2.Key) ∈ acc.map (·.1)
      · rw [putP_old _ hy] at hk
        obtain ⟨u, hu, e⟩ := List.mem_map.mp hk
        obtain ⟨z, hz⟩ := h u hu
        exact ⟨z, e.symm.trans hz⟩
      · rw [putP_add _ hy] at hk
        rcases List.mem_append.mp hk with m | m
        · obtain ⟨u, hu, e⟩ := List.mem_map.mp m
          obtain ⟨z, hz⟩ := h u hu
          exact ⟨z, e.symm.trans hz⟩
        · exact ⟨_, List.mem_singleton.mp m⟩
  exact g fl [] fun x hx => by cases hx
theorem flat_len {rs : List Rec} (h : rs.length ≤ 40) : ∀ is : List Nat, is.length ≤ 40 → (∀ i ∈ is, i < rs.length) → (flatOf rs is).length ≤ 40 * is.length := by
  intro is
  induction is with
  | nil => intro _ _; exact Nat.zero_le _
  | cons i is ih =>
    intro hl hm
    have h1 := ih (by rw [List.length_cons] at hl; omega) fun j hj => hm j (List.mem_cons_of_mem _ hj)
    have h2 : (lotEnts rs i).length ≤ 40 := by
      unfold lotEnts lotAt
      rw [List.length_map, List.length_zipIdx, List.length_take, List.length_drop]
      omega
    unfold flatOf at h1 ⊢
    rw [List.flatMap_cons, List.length_append, List.length_cons]
    omega
theorem lot_len {rs : List Rec} {i : Nat} (h : i < rs.length) : (lotAt rs i).length = partsClosed rs i := by
  have := parts_le rs i
  unfold lotAt
  rw [List.length_take, List.length_drop]
  omega
/-- words -/
def signs : Str := "abcdefghijklmnopqrstuvwxyz0123456789"
def wordOk (w : Str) : Bool := decide (1 ≤ w.length) && (decide (w.length ≤ 12) && w.cps.toList.all fun c => decide (c ∈ signs.cps.toList))
def recOk : Rec → Bool
  | .blank => true
  | .put k w _ _ => wordOk k && wordOk w
  | .drop k _ _ => wordOk k
/-- a value with tuples in the place of lists, n deep -/
def tupN : Nat → PyData → PyData
  | 0, d => d
  | n + 1, .list ds => .tuple (ds.map (tupN n))
  | n + 1, .tuple ds => .tuple (ds.map (tupN n))
  | _ + 1, d => d
def okT : Nat → PyData → Bool
  | _, .dict _ => false
  | 0, .list _ => false
  | 0, .tuple _ => false
  | 0, _ => true
  | n + 1, .list ds => decide (ds.length ≤ 1000) && ds.all (okT n)
  | n + 1, .tuple ds => decide (ds.length ≤ 1000) && ds.all (okT n)
  | _ + 1, _ => true
/-- x is the row rs, with lists in the place of tuples or not -/
structure RowIn (x : PyData) (rs : List Rec) : Prop where
  ok : okT 2 x = true
  eq : tupN 2 x = rowD rs
  good : ∀ r ∈ rs, recOk r = true
  small : rs.length ≤ 40
theorem tup_enc (r : Rec) : tupN 1 (enc r) = enc r := by
  cases r <;> rfl
theorem okT_enc (r : Rec) : okT 1 (enc r) = true := by
  cases r <;> rfl
theorem rowIn_row {rs : List Rec} (g : ∀ r ∈ rs, recOk r = true) (hn : rs.length ≤ 40) : RowIn (rowD rs) rs where
  ok := by
    show (decide ((rs.map enc).length ≤ 1000) && (rs.map enc).all (okT 1)) = true
    rw [List.length_map, decide_eq_true (by omega), Bool.true_and, List.all_map, List.all_eq_true]
    intro r _
    exact okT_enc r
  eq := by
    show PyData.tuple ((rs.map enc).map (tupN 1)) = PyData.tuple (rs.map enc)
    rw [List.map_map]
    congr 1
    exact List.map_congr_left fun r _ => tup_enc r
  good := g
  small := hn
/-- what it says that a record closes -/
theorem closes_iff {rs : List Rec} {i : Nat} (h : 0 < partsClosed rs i) : (recAt rs i).isBlank = false ∧ (recAt rs i).left = 0 ∧ partsClosed rs i = min (recAt rs i).place i + 1 ∧ ∀ j, j < min (recAt rs i).place i → partOk rs i (recAt rs i).place j = true := by
  by_cases h1 : ((recAt rs i).isBlank || !decide ((recAt rs i).left = 0)) = true
  · unfold partsClosed at h
    rw [if_pos h1] at h
    omega
  · by_cases h2 : (List.range (min (recAt rs i).place i)).all (partOk rs i (recAt rs i).place) = true
    · have e : partsClosed rs i = min (recAt rs i).place i + 1 := by
        unfold partsClosed
        rw [if_neg h1, if_pos h2]
      rw [Bool.not_eq_true, Bool.or_eq_false_iff, Bool.not_eq_false'] at h1
      exact ⟨h1.1, of_decide_eq_true h1.2, e, fun j hj => List.all_eq_true.mp h2 j (List.mem_range.mpr hj)⟩
    · unfold partsClosed at h
      rw [if_neg h1, if_neg h2] at h
      omega
theorem part_iff {r : Rec} {p l : Nat} : isPart r (p : Int) (l : Int) = true ↔ r.isBlank = false ∧ r.place = p ∧ r.left = l := by
  cases r with
  | blank => exact ⟨fun h => (by cases h), fun h => (by cases h.1)⟩
  | put k w p' l' =>
    show ((p' : Int) == p && (l' : Int) == l) = true ↔ _
    rw [Bool.and_eq_true, beq_iff_eq, beq_iff_eq]
    exact ⟨fun h => ⟨rfl, by have := h.1; show p' = p; omega, by have := h.2; show l' = l; omega⟩, fun h => ⟨by have := h.2.1; have e : p' = p := this; omega, by have := h.2.2; have e : l' = l := this; omega⟩⟩
  | drop k p' l' =>
    show ((p' : Int) == p && (l' : Int) == l) = true ↔ _
    rw [Bool.and_eq_true, beq_iff_eq, beq_iff_eq]
    exact ⟨fun h => ⟨rfl, by have := h.1; show p' = p; omega, by have := h.2; show l' = l; omega⟩, fun h => ⟨by have := h.2.1; have e : p' = p := this; omega, by have := h.2.2; have e : l' = l := this; omega⟩⟩
theorem partOk_iff {rs : List Rec} {i p j : Nat} (hj : j < p) : partOk rs i p j = true ↔ (recAt rs (i - (1 + j))).isBlank = false ∧ (recAt rs (i - (1 + j))).place = p - (1 + j) ∧ (recAt rs (i - (1 + j))).left = 1 + j := by
  unfold partOk
  rw [show (p : Int) - ((1 + j : Nat) : Int) = ((p - (1 + j) : Nat) : Int) by omega]
  exact part_iff
theorem recAt_get {rs : List Rec} {i : Nat} (h : i < rs.length) : rs[i]? = some (recAt rs i) := by
  unfold recAt
  rw [List.getD_eq_getElem?_getD, List.getElem?_eq_getElem h]
  rfl
theorem lot_at {rs : List Rec} {i t : Nat} (hi : i < rs.length) (ht : t < partsClosed rs i) : (lotAt rs i)[t]? = some (recAt rs (i + 1 - partsClosed rs i + t)) := by
  have := parts_le rs i
  unfold lotAt
  rw [List.getElem?_take, if_pos ht, List.getElem?_drop]
  exact recAt_get (by omega)
theorem lot_good {rs : List Rec} {i : Nat} (hi : i < rs.length) (h : 0 < partsClosed rs i) : ∀ r ∈ lotAt rs i, r.isBlank = false := by
  intro r hr
  obtain ⟨h1, h2, h3, h4⟩ := closes_iff h
  obtain ⟨t, ht⟩ := List.mem_iff_getElem?.mp hr
  have hlt : t < partsClosed rs i := by
    have := (List.getElem?_eq_some_iff.mp ht).1
    rwa [lot_len hi] at this
  rw [lot_at hi hlt] at ht
  cases Option.some.inj ht
  by_cases e : t + 1 = partsClosed rs i
  · rw [show i + 1 - partsClosed rs i + t = i by have := parts_le rs i; omega]
    exact h1
  · have hj := h4 (partsClosed rs i - 2 - t) (by omega)
    have := (partOk_iff (by omega)).mp hj
    rw [show i - (1 + (partsClosed rs i - 2 - t)) = i + 1 - partsClosed rs i + t by have := parts_le rs i; omega] at this
    exact this.1
theorem ats_0 {r : Rec} (h : r.isBlank = false) : L2.atI (encSL r) 0 = some (.str r.tag) := by
  cases r with
  | blank => cases h
  | put k w p l => rfl
  | drop k p l => rfl
theorem ats_1 {r : Rec} (h : r.isBlank = false) : L2.atI (encSL r) 1 = some (.str r.key) := by
  cases r with
  | blank => cases h
  | put k w p l => rfl
  | drop k p l => rfl
theorem tag_put {r : Rec} (h : r.isBlank = false) : decide (r.tag = ("put" : Str)) = r.isPut := by
  cases r with
  | blank => cases h
  | put k w p l => rfl
  | drop k p l => exact decide_eq_false (show ¬ ("drop" : Str) = "put" by decide)
/-- numbers of last words, by keys -/
def fNum (x : Nat × Rec) : PyData := if x.2.isPut then .int (x.1 : Nat) else .none
def isSome (d : PyData) : Bool := match d with
  | .none => false
  | _ => true
def numD (rs : List Rec) : List (L2.Key × PyData) := (dictBy fNum (flat rs)).filter fun x => isSome x.2
end HR

set_option Elab.async false
set_option linter.all false
set_option maxRecDepth 100000
set_option maxHeartbeats 4000000
namespace HR
open PySem PySem.Spec PyProof.Rows L2 Evl
/-! ### dicts of this def's own -/
def keyD : Key → PyData
  | .inl i => .int i
  | .inr x => .str x
section
variable {K : PySem.W.Frag} {H : Hp}
theorem kvd_len : ∀ {vs : List (Key × V)} {kvs : List (Key × PyData)}, KvD K H vs kvs → vs.length = kvs.length
  | _, _, .nil => rfl
  | _, _, .cons _ t => congrArg Nat.succ (kvd_len t)
theorem kvd_any {k : Key} : ∀ {vs : List (Key × V)} {kvs : List (Key × PyData)}, KvD K H vs kvs → (vs.any fun kv => decide (kv.1 = k)) = (kvs.any fun kv => decide (kv.1 = k))
  | _, _, .nil => rfl
  | _, _, .cons h t => by rw [List.any_cons, List.any_cons, kvd_any t, h.1]
theorem kvd_map {k : Key} {v : V} {d : PyData} (hd : Dp K H v d) : ∀ {vs : List (Key × V)} {kvs : List (Key × PyData)}, KvD K H vs kvs → KvD K H (vs.map fun kv => if kv.1 = k then (kv.1, v) else kv) (kvs.map fun kv => if kv.1 = k then (kv.1, d) else kv)
  | _, _, .nil => .nil
  | _, _, .cons (a := p) (b := q) h t => by
    refine .cons ?_ (kvd_map hd t)
    dsimp only
    by_cases e : p.1 = k
    · rw [if_pos e, if_pos (h.1 ▸ e)]
      exact ⟨h.1, hd⟩
    · rw [if_neg e, if_neg (fun z => e (h.1.trans z))]
      exact h
theorem kvd_snoc {p : Key × V} {q : Key × PyData} (h : p.1 = q.1 ∧ Dp K H p.2 q.2) : ∀ {vs : List (Key × V)} {kvs : List (Key × PyData)}, KvD K H vs kvs → KvD K H (vs ++ [p]) (kvs ++ [q])
  | _, _, .nil => .cons h .nil
  | _, _, .cons h' t => .cons h' (kvd_snoc h t)
theorem kvd_put {k : Key} {v : V} {d : PyData} {vs : List (Key × V)} {kvs : List (Key × PyData)} (h : KvD K H vs kvs) (hd : Dp K H v d) : KvD K H (putK vs k v) (putP kvs k d) := by
  unfold putK putP
  rw [kvd_any h]
  split
  · exact kvd_map hd h
  · exact kvd_snoc ⟨rfl, hd⟩ h
theorem kvd_get {k : Key} {d : PyData} : ∀ {vs : List (Key × V)} {kvs : List (Key × PyData)}, KvD K H vs kvs → getP kvs k = some d → ∃ v, valV vs k = some v ∧ Dp K H v d
  | _, _, .nil, e => by cases e
  | _, _, .cons (a := p) (b := q) h t, e => by
    unfold getP at e
    by_cases z : q.1 = k
    · rw [List.find?_cons, decide_eq_true z] at e
      refine ⟨p.2, valV_pos (h.1.trans z), ?_⟩
      cases Option.some.inj e
      exact h.2
    · rw [List.find?_cons, decide_eq_false z] at e
      obtain ⟨v, e1, e2⟩ := kvd_get t e
      exact ⟨v, by rw [valV_neg (fun y => z (h.1.symm.trans y))]; exact e1, e2⟩
theorem kvd_at : ∀ {vs : List (Key × V)} {kvs : List (Key × PyData)} {i : Nat} {k : Key} {v : V}, KvD K H vs kvs → vs[i]? = some (k, v) → ∃ d, kvs[i]? = some (k, d) ∧ Dp K H v d
  | _, _, _, _, _, .nil, e => by simp at e
  | _, _, 0, _, _, .cons (b := q) h t, e => by
    cases Option.some.inj e
    exact ⟨q.2, by simp only [List.getElem?_cons_zero]; rw [show q = (q.1, q.2) from rfl, ← h.1], h.2⟩
  | _, _, i + 1, _, _, .cons h t, e => by
    obtain ⟨d, e1, e2⟩ := kvd_at (i := i) t e
    exact ⟨d, e1, e2⟩
theorem dp_key (k : Key) : Dp K H (kV k) (keyD k) := by
  cases k with
  | inl i => exact .int i
  | inr x => exact .str x
end
section
variable {K : PySem.W.Frag} {H0 H : Hp} {M L : List Addr} {σ : L2.St} {Γ : Ctx} {te ty tv : TE} {t : TT} {ts tz tb : TS} {D : Ends} {d : PyData} {b : Bool}
theorem sg_newD {i : Nat} (E : Env K H0 M L σ H Γ) (k : ∀ p σ' H', H p = none → p ∉ L → Ex H H' → Env K H0 (p :: M) (p :: L) σ' H' (Γ.set i (.dk p [])) → tz D σ' H') (hi : i < Γ.length := by exact Nat.le_of_ble_eq_true rfl) : tSeq (tAsg tDNewK (gName i)) tz D σ H :=
  fun p hp => k p _ _ hp (E.fresh hp) (Ex.new hp) ((E.more hp).put hi ⟨[], rfl, List.mem_cons_self, upd_same, .nil⟩)
/-- the object at a, spoken of by the i-th slot alone, becomes another one -/
theorem Env.mutO {i : Nat} {a : Addr} {x : Ent} {o : HO} (E : Env K H0 M L σ H Γ) (ha : a ∈ M) (al : alone Γ i) (hi : i < Γ.length) (hx : EntOk K L (upd H a o) σ[i]? x) : Env K H0 M L σ (upd H a o) (Γ.set i x) := by
  have aL := E.sub a ha
  have e1 : er L (upd H a o) = er L H := er_upd aL
  have e0 : er M (upd H a o) = er M H := er_upd ha
  refine ⟨by rw [List.length_set]; exact E.len, fun c hc => ?_, E.sub, by rw [e0]; exact E.base, fun j e he => ?_⟩
  · by_cases q : c = a
    · rw [q]
      exact ⟨_, upd_same⟩
    · obtain ⟨o, ho⟩ := E.live c hc
      exact ⟨o, by rw [upd_ne q]; exact ho⟩
  · by_cases q : i = j
    · subst q
      rw [List.getElem?_set_self hi] at he
      cases Option.some.inj he
      exact hx
    · rw [List.getElem?_set_ne q] at he
      have k := E.ent j e he
      have ad := al j e (Ne.symm q) he
      cases e with
      | no => trivial
      | dat d =>
        obtain ⟨v, h1, h2⟩ := k
        exact ⟨v, h1, by rw [e1]; exact h2⟩
      | fn f => exact k
      | fz c kvs => cases ad
      | rd c kvs =>
        obtain ⟨vs, h1, h3, h4⟩ := k
        exact ⟨vs, h1, by rw [e1]; exact h3, by rw [e1]; exact h4⟩
      | lst c ds => cases ad
      | dk c kvs => cases ad
      | tin c n => cases ad
/-- found[k] = e -/
theorem sl_put {i : Nat} {a : Addr} {kvs : List (Key × PyData)} {x : Str} (E : Env K H0 M L σ H Γ) (hi : Γ[i]? = some (.dk a kvs)) (ha : a ∈ M) (hv : EG K tv Γ d) (hk : EG K ty Γ (.str x)) (hz : kvs.length ≤ 50000) (k : ∀ H', Env K H0 M L σ H' (Γ.set i (.dk a (putP kvs (.inr x) d))) → D.nx σ H')
    (al : ((Γ.set i .no).all fun e => e.addr.isNone) = true := by rfl) : sDPut (tVar i) ty tv D σ H :=
  hv H0 M L σ H E _ fun v H1 e1 h1 => by
    have E1 := E.mono e1
    obtain ⟨vs, s1, s2, s3, s4⟩ := E1.ent i _ hi
    refine ⟨_, s1, hk H0 M L σ H1 E1 _ fun y H2 e2 h2 => ?_⟩
    cases h2
    have E2 := E1.mono e2
    have l := kvd_len s4
    refine ⟨a, _, rfl, DPut.k (k := .inr x) (v := v) (e2 _ _ s3) ?_, ?_⟩
    · rw [l]
      exact sz_lt (by omega)
    · refine k _ (E2.mutO ha (alone_of al) (List.getElem?_eq_some_iff.mp hi).1 ⟨_, s1, s2, upd_same, ?_⟩)
      rw [er_upd s2]
      exact kvd_put (kvd_mono (er_mono e2) s4) (dp_mono (er_mono e2) _ _ h1)
/-- d[k] -/
theorem eg_getF {i : Nat} {a : Addr} {kvs : List (Key × PyData)} {x : Str} (hi : Γ[i]? = some (.fz a kvs)) (hk : EG K ty Γ (.str x)) (hg : getP kvs (.inr x) = some d) : EG K (tDGet (tVar i) ty) Γ d := fun H0 M L σ H E Q q => by
  obtain ⟨vs, od, s1, s2, s3, s4⟩ := E.ent i _ hi
  refine ⟨_, s1, hk H0 M L σ H E _ fun y H1 e1 h1 => ?_⟩
  cases h1
  obtain ⟨v, v1, v2⟩ := kvd_get (kvd_mono (er_mono (L := L) e1) s4) hg
  exact ⟨a, v, rfl, .inl ⟨vs, .inr x, .inr ⟨od, e1 _ _ s3⟩, rfl, v1.symm⟩, q v H1 e1 v2⟩
theorem eg_getR {i : Nat} {a : Addr} {kvs : List (Key × PyData)} {x : Str} (hi : Γ[i]? = some (.rd a kvs)) (hk : EG K ty Γ (.str x)) (hg : getP kvs (.inr x) = some d) : EG K (tDGet (tVar i) ty) Γ d := fun H0 M L σ H E Q q => by
  obtain ⟨vs, s1, s3, s4⟩ := E.ent i _ hi
  refine ⟨_, s1, hk H0 M L σ H E _ fun y H1 e1 h1 => ?_⟩
  cases h1
  obtain ⟨v, v1, v2⟩ := kvd_get (kvd_mono (er_mono (L := L) e1) s4) hg
  exact ⟨a, v, rfl, .inl ⟨vs, .inr x, ex_rd ((er_mono e1).trans (er_ex L H1)) s3, rfl, v1.symm⟩, q v H1 e1 v2⟩
/-- the results of tuple(..), sorted(..) of a value at hand -/
theorem rt_tup {v : V} {ds : List PyData} (E : Env K H0 M L σ H Γ) (h : Dp K (er L H) v (.list ds)) {Q : VK} (q : ∀ v' H', Ex H H' → Dp K (er L H') v' (.tuple ds) → Q v' H') : rTupS K [v] H Q := by
  cases h with
  | @lst a xs _ hs hv =>
    refine ⟨_, _, rfl, .inl ⟨ex_l (er_ex L H) hs, fun p hp => ?_⟩⟩
    have np := E.fresh hp
    have e2 := Ex.new (o := .tup xs) hp
    refine q _ _ e2 (.tup (.inl (.inl ?_)) (dps_mono (er_mono e2) _ _ hv))
    rw [er_out np]
    exact upd_same
theorem rt_sort {v : V} {ds : List PyData} (E : Env K H0 M L σ H Γ) (h : Dp K (er L H) v (.list ds)) (hal : PySem.W.AllAlike ds) (hk : PySem.W.Sortable ds) (hdep : ∀ d ∈ ds, d.depth ≤ 60) {Q : VK} (q : ∀ v' H', Ex H H' → Dp K (er L H') v' (.list (sortD ds)) → Q v' H') : rSortD K [v] H Q := by
  cases h with
  | @lst a xs _ hs hv =>
    refine ⟨_, _, ds, er L H, rfl, er_ex L H, ex_l (er_ex L H) hs, hv, hal, hk, hdep, fun p ys hp _ hy => ?_⟩
    have np := E.fresh hp
    have e4 := Ex.new (o := .lst ys) hp
    refine q _ _ e4 (.lst (.inl (.inl ?_)) (dps_mono (er_mono e4) _ _ hy))
    rw [er_out np]
    exact upd_same
/-! ### walks over a dict -/
/-- [elt for key in found if test], found this def's own: it is locked for good -/
theorem lc_keys {i : Nat} {a : Addr} {kvs : List (Key × PyData)} {g : TG} {tt : TT} {vs js : List Nat} (E : Env K H0 M L σ H Γ) (hi : Γ[i]? = some (.dk a kvs)) (ha : a ∈ M) (al : ((Γ.set i .no).all fun e => e.addr.isNone) = true)
    (Γb : Key × PyData → Ctx) (B : ∀ x ∈ kvs, Bnd K g js (wipeC (Γ.set i (.fz a kvs)) vs) (keyD x.1) (Γb x)) (p : Key × PyData → Bool) (f : Key × PyData → PyData) (hn : kvs.length ≤ 50000)
    (ht : ∀ x ∈ kvs, QG K tt (Γb x) (p x)) (he : ∀ x ∈ kvs, p x = true → EG K te (Γb x) (f x)) (hjs : ∀ j ∈ js, j ∈ vs) {Q : VK}
    (q : ∀ v H', Env K H0 M L σ H' (Γ.set i (.fz a kvs)) → Dp K (er L H') v (.list ((kvs.filter p).map f)) → Q v H') : tLc (iKeys (tLockA (tVar i))) g tt te vs σ H Q := by
  obtain ⟨ws, s1, s2, s3, s4⟩ := E.ent i _ hi
  have l := kvd_len s4
  refine ⟨_, s1, a, _, rfl, s3, trivial, fun od => ⟨a, od, rfl, .inl ⟨ws, upd_same, fun D hD => ?_⟩⟩⟩
  have e1 : er L (upd H a (.frz od (.dK ws))) = er L H := er_upd s2
  have E1 : Env K H0 M L σ (upd H a (.frz od (.dK ws))) (Γ.set i (.fz a kvs)) := E.mutO ha (alone_of al) (List.getElem?_eq_some_iff.mp hi).1 ⟨ws, od, s1, s2, upd_same, by rw [e1]; exact s4⟩
  refine lcF_in (enc := fun x : Key × PyData => keyD x.1) (xs := kvs) (G := fun H => H a = some (.frz od (.dK ws))) E1 (l ▸ walk_keys) (fun H' x => x _ _ upd_same) (fun L' j x H2 H3 hj _ _ hy => ?_) Γb B p f hn ht he hjs hD fun H' x hd => q _ H' (E1.mono x) hd
  obtain ⟨rfl, k, v, hk, rfl⟩ := hy
  obtain ⟨d, hd, _⟩ := kvd_at s4 hk
  exact ⟨Ex.refl _, keyD k, by rw [List.getElem?_map, hd]; rfl, dp_key k⟩
/-- a dict comprehension's walk, the walked thing having come; keys are texts -/
theorem dcF_in {α : Type} {enc : α → PyData} {xs : List α} {H1 : Hp} {J : It} {G : Hp → Prop} {Y : Nat → Hp → V → Hp → Prop} {g : TG} {tt : TT} {tk tv : TE} {vs js : List Nat} (E1 : Env K H0 M L σ H1 Γ) (w : Walk J xs.length G Y) (hG : ∀ H', Ex H1 H' → G H')
    (hY : ∀ L' i x H2 H3, i < xs.length → Ex (er L H1) (er L' H2) → (∀ a ∈ L', ∃ o, H2 a = some o) → Y i H2 x H3 → Ex H2 H3 ∧ ∃ d, (xs.map enc)[i]? = some d ∧ Dp K (er L' H3) x d)
    (Γb : α → Ctx) (B : ∀ x ∈ xs, Bnd K g js (wipeC Γ vs) (enc x) (Γb x)) (p : α → Bool) (kf : α → Str) (f : α → PyData) (hn : xs.length ≤ 50000)
    (ht : ∀ x ∈ xs, QG K tt (Γb x) (p x)) (hk : ∀ x ∈ xs, p x = true → EG K tk (Γb x) (.str (kf x))) (he : ∀ x ∈ xs, p x = true → EG K tv (Γb x) (f x)) (hjs : ∀ j ∈ js, j ∈ vs) {D : Addr} (hD : H1 D = none) {Qd : Hp → Prop}
    (q : ∀ H' ws, Ex H1 H' → H' D = some (.dK ws) → KvD K (er (D :: L) H') ws ((xs.filter p).foldl (fun kv x => putP kv (.inr (kf x)) (f x)) []) → Qd H') :
    ∃ W : Nat → Nat → Hp → Prop, (∃ m, W 0 m (upd H1 D (.dK []))) ∧ ∀ i m H, W i m H →
      (J.stop i H ∧ Qd H) ∨ (J.go i H ∧ ∃ Nx : Hp → Prop, (∀ H', Nx H' → ∃ m', m' < m ∧ W (i + 1) m' H') ∧ ∀ x H', J.yld i H x H' → g x (L2.wipe σ vs) H' fun σ2 H2 => L2.wipe σ2 vs = L2.wipe σ vs ∧ tt σ2 H2 fun b H3 =>
        if b = true then tk σ2 H3 fun y H4 => tv σ2 H4 fun z H5 => ∃ kvs k, y = kV k ∧ H5 D = some (.dK kvs) ∧ kvs.length < sizeLine ∧ Nx (upd H5 D (.dK (putK kvs k z))) else Nx H3) := by
  have nD := E1.fresh hD
  have eD : er (D :: L) H1 = er L H1 := er_cons hD
  have wl : ∀ {H' : Hp}, Ex H1 H' → Ex (er L H1) (er (D :: L) H') := fun x => by
    rw [← eD]
    exact er_mono x
  let acc : Nat → List (Key × PyData) := fun i => ((xs.take i).filter p).foldl (fun kv x => putP kv (.inr (kf x)) (f x)) []
  let Pv : Nat → Hp → Prop := fun i H' => Ex H1 H' ∧ ∃ ws, H' D = some (.dK ws) ∧ ws.length ≤ i ∧ KvD K (er (D :: L) H') ws (acc i)
  refine ⟨fun i m H => m = xs.length - i ∧ i ≤ xs.length ∧ Pv i H, ⟨xs.length, by simp, Nat.zero_le _, Ex.new hD, [], upd_same, Nat.zero_le _, .nil⟩, ?_⟩
  rintro i m H2 ⟨rfl, hi, x1, ws, ha, hwl, hd⟩
  have qG := hG H2 x1
  by_cases hlt : i < xs.length
  · refine .inr ⟨w.goes i H2 hlt qG, Pv (i + 1), fun H' p' => ⟨xs.length - (i + 1), by omega, rfl, hlt, p'⟩, fun x H3 y => ?_⟩
    have hy := w.yields i H2 x H3 hlt qG y
    have live2 : ∀ a ∈ D :: L, ∃ o, H2 a = some o := (E1.ext hD x1 ⟨_, ha⟩).live
    obtain ⟨x2, d, hd2, hdp⟩ := hY (D :: L) i x H2 H3 hlt (wl x1) live2 hy
    have hxi : xs[i]? = some xs[i] := List.getElem?_eq_getElem hlt
    have ed : d = enc xs[i] := by
      rw [List.getElem?_map, hxi] at hd2
      exact (Option.some.inj hd2).symm
    subst ed
    have mem : xs[i] ∈ xs := List.getElem_mem hlt
    have etk : xs.take (i + 1) = xs.take i ++ [xs[i]] := by rw [List.take_add_one, hxi]; rfl
    have E3 : Env K H0 (D :: M) (D :: L) (L2.wipe σ vs) H3 (wipeC Γ vs) := (E1.ext hD (x1.trans x2) ⟨_, x2 _ _ ha⟩).wipe vs
    refine (B _ mem).run H0 (D :: M) (D :: L) _ H3 x E3 hdp _ fun σ2 E4 hw => ⟨by rw [hw vs hjs, wipe_wipe], ?_⟩
    refine ht _ mem H0 (D :: M) (D :: L) σ2 H3 E4 _ fun H4 e4 => ?_
    have E5 := E4.mono e4
    by_cases hp : p xs[i] = true
    · rw [if_pos hp]
      refine hk _ mem hp H0 (D :: M) (D :: L) σ2 H4 E5 _ fun y H5 e5 hy5 => he _ mem hp H0 (D :: M) (D :: L) σ2 H5 (E5.mono e5) _ fun z H6 e6 hz6 => ?_
      cases hy5
      have e26 := ((x2.trans e4).trans e5).trans e6
      have ha6 : H6 D = some (.dK ws) := e26 _ _ ha
      refine ⟨ws, .inr (kf xs[i]), rfl, ha6, sz_lt (by omega), Ex.mut (x1.trans e26) hD, _, upd_same, ?_, ?_⟩
      · have := length_putK ws (.inr (kf xs[i])) z
        omega
      · have ea : acc (i + 1) = putP (acc i) (.inr (kf xs[i])) (f xs[i]) := by
          show ((xs.take (i + 1)).filter p).foldl _ [] = _
          rw [etk, List.filter_append, List.filter_cons, if_pos hp, List.foldl_append]
          rfl
        rw [ea, er_upd List.mem_cons_self]
        exact kvd_put (kvd_mono (er_mono e26) hd) hz6
    · rw [if_neg hp]
      have e24 := x2.trans e4
      refine ⟨x1.trans e24, ws, e24 _ _ ha, by omega, ?_⟩
      have ea : acc (i + 1) = acc i := by
        show ((xs.take (i + 1)).filter p).foldl _ [] = _
        rw [etk, List.filter_append, List.filter_cons, if_neg hp]
        show ((xs.take i).filter p ++ []).foldl _ [] = _
        rw [List.append_nil]
      rw [ea]
      exact kvd_mono (er_mono e24) hd
  · have e : i = xs.length := by omega
    subst e
    refine .inl ⟨w.stops H2 qG, q H2 ws x1 ha ?_⟩
    have ea : acc xs.length = (xs.filter p).foldl (fun kv x => putP kv (.inr (kf x)) (f x)) [] := by
      show ((xs.take xs.length).filter p).foldl _ [] = _
      rw [List.take_length]
    rw [← ea]
    exact hd
/-- the pair that d.items() gives -/
def itemD (x : Key × PyData) : PyData := .tuple [keyD x.1, x.2]
theorem items_y {H1 : Hp} {ws : List (Key × V)} {kvs : List (Key × PyData)} (s4 : KvD K (er L H1) ws kvs) : ∀ L' i x H2 H3, i < kvs.length → Ex (er L H1) (er L' H2) → (∀ a ∈ L', ∃ o, H2 a = some o) → YPair (fun i => ws[i]?.map fun kv => kV kv.1) (fun i => ws[i]?.map Prod.snd) i H2 x H3 →
    Ex H2 H3 ∧ ∃ d, (kvs.map itemD)[i]? = some d ∧ Dp K (er L' H3) x d := by
  rintro L' i x H2 H3 hi e hl ⟨T, y, z, rfl, hT, rfl, hy, hz⟩
  have hlt : i < ws.length := by rw [kvd_len s4]; exact hi
  have hw : ws[i]? = some (ws[i].1, ws[i].2) := List.getElem?_eq_getElem hlt
  obtain ⟨d, hd, hdp⟩ := kvd_at s4 hw
  dsimp only at hy hz
  rw [hw] at hy hz
  cases Option.some.inj hy
  cases Option.some.inj hz
  obtain ⟨p1, p2⟩ := pair_new hl hT (dp_key ws[i].1) (dp_mono e _ _ hdp)
  exact ⟨p1, _, by rw [List.getElem?_map, hd]; rfl, p2⟩
/-- {k: v for .. in found.items() if ..}, found this def's own -/
theorem dc_items {i : Nat} {a : Addr} {kvs : List (Key × PyData)} {g : TG} {tt : TT} {tk tv : TE} {vs js : List Nat} (E : Env K H0 M L σ H Γ) (hi : Γ[i]? = some (.dk a kvs)) (ha : a ∈ M) (al : ((Γ.set i .no).all fun e => e.addr.isNone) = true)
    (Γb : Key × PyData → Ctx) (B : ∀ x ∈ kvs, Bnd K g js (wipeC (Γ.set i (.fz a kvs)) vs) (itemD x) (Γb x)) (p : Key × PyData → Bool) (kf : Key × PyData → Str) (f : Key × PyData → PyData) (hn : kvs.length ≤ 50000)
    (ht : ∀ x ∈ kvs, QG K tt (Γb x) (p x)) (hk : ∀ x ∈ kvs, p x = true → EG K tk (Γb x) (.str (kf x))) (he : ∀ x ∈ kvs, p x = true → EG K tv (Γb x) (f x)) (hjs : ∀ j ∈ js, j ∈ vs) {Q : VK}
    (q : ∀ D H' ws, H D = none → Env K H0 M L σ H' (Γ.set i (.fz a kvs)) → H' D = some (.dK ws) → KvD K (er (D :: L) H') ws ((kvs.filter p).foldl (fun kv x => putP kv (.inr (kf x)) (f x)) []) → Q (.ref D) H') : tDc (iItems (tLockA (tVar i))) g tt tk tv vs σ H Q := by
  obtain ⟨ws, s1, s2, s3, s4⟩ := E.ent i _ hi
  have l := kvd_len s4
  refine ⟨_, s1, a, _, rfl, s3, trivial, fun od => ⟨a, od, ws, rfl, upd_same, fun D hD => ?_⟩⟩
  have e1 : er L (upd H a (.frz od (.dK ws))) = er L H := er_upd s2
  have E1 : Env K H0 M L σ (upd H a (.frz od (.dK ws))) (Γ.set i (.fz a kvs)) := E.mutO ha (alone_of al) (List.getElem?_eq_some_iff.mp hi).1 ⟨ws, od, s1, s2, upd_same, by rw [e1]; exact s4⟩
  have hD0 : H D = none := by
    by_cases z : D = a
    · rw [z, upd_same] at hD
      cases hD
    · rw [upd_ne z] at hD
      exact hD
  exact dcF_in (enc := itemD) (xs := kvs) (G := fun H => H a = some (.frz od (.dK ws))) E1 (l ▸ walk_items) (fun H' x => x _ _ upd_same) (items_y (by rw [e1]; exact s4)) Γb B p kf f hn ht hk he hjs hD fun H' ws' x h1 h2 => q D H' ws' hD0 (E1.mono x) h1 h2
end
end HR

set_option Elab.async false
set_option linter.all false
set_option maxRecDepth 100000
set_option maxHeartbeats 4000000
namespace HR
open PySem PySem.Spec PyProof.Rows L2 Evl
section
variable {P : Program} {w : World} {K : PySem.W.Frag} {mg : Str → Option Value} {base : Heap}
/-! ### numbers -/
theorem scIsNumber : FnScope ["thing"] ["thing"] (defScope sIsNumber) := ⟨rfl, rfl, rfl, by decide +kernel, rfl, by decide +kernel, by decide +kernel⟩
def PIsNumber (ds : List PyData) (d : PyData) : Prop := ∃ n : Int, ds = [.int n] ∧ d = .bool true
theorem ok_is_number (T : Top K mg) : Ok P w K mg base 1 "is_number" ["thing"] (spD K PIsNumber) := by
  refine ok_pure T 0 scIsNumber (fun ds d h => by obtain ⟨n, rfl, _⟩ := h; rfl) (fun _ _ _ _ _ _ us hl => match us, hl with | [_], _ => rfl) (fun cdv A outer s H E hr => ⟨_, pss_one (ps_ret (pe_and (pe_callB (r := rIsi K) call_isi (by rfl) T.isinstanceN (by decide +kernel) (pa_cons (pv 0) (pa_cons (pe_bltn (v := .ty "int") (by rfl) T.intN (by decide +kernel) rfl) pa_nil))) (pe_one (pe_not (pe_callB (r := rIsi K) call_isi (by rfl) T.isinstanceN (by decide +kernel) (pa_cons (pv 0) (pa_cons (pe_bltn (v := .ty "bool") (by rfl) T.boolN (by decide +kernel) rfl) pa_nil))))))), fun ds d h => ?_⟩)
  obtain ⟨n, rfl, rfl⟩ := h
  exact bg_ret (eg_is (eg_and (eg_isi (eg_var rfl)) fun _ => eg_not (eg_isi (eg_var rfl))) rfl)
theorem scIsFrom : FnScope ["thing", "least"] ["thing", "least"] (defScope sIsFrom) := ⟨rfl, rfl, rfl, by decide +kernel, rfl, by decide +kernel, by decide +kernel⟩
def PIsFrom (ds : List PyData) (d : PyData) : Prop := ∃ n m : Int, ds = [.int n, .int m] ∧ d = .bool (decide (m ≤ n))
theorem ok_is_from (T : Top K mg) : Ok P w K mg base 2 "is_from" ["thing", "least"] (spD K PIsFrom) := by
  have O_is_number := ok_is_number (P := P) (w := w) (base := base) T
  refine ok_pure T 1 scIsFrom (fun ds d h => by obtain ⟨n, m, rfl, _⟩ := h; rfl) (fun _ _ _ _ _ _ us hl => match us, hl with | [_, _], _ => rfl) (fun cdv A outer s H E hr => ⟨_, pss_one (ps_ret (pe_and (pe_cal O_is_number hr (pa_cons (pv 0) pa_nil)) (pe_one (pe_cmpR op_ge (pv 0) (pv 1) (nomark _))))), fun ds d h => ?_⟩)
  obtain ⟨n, m, rfl, rfl⟩ := h
  exact bg_ret (eg_is (eg_and (eg_call (ag_cons (eg_var rfl) ag_nil) ⟨n, rfl, rfl⟩) fun _ => eg_IB (eg_var rfl) (eg_var rfl)) (by rw [Bool.true_and]))
theorem scIsPart : FnScope ["record", "place", "left"] ["record", "place", "left"] (defScope sIsPart) := ⟨rfl, rfl, rfl, by decide +kernel, rfl, by decide +kernel, by decide +kernel⟩
def PIsPart (ds : List PyData) (d : PyData) : Prop := ∃ (r : Rec) (p l : Int), ds = [enc r, .int p, .int l] ∧ d = .bool (isPart r p l)
theorem ok_is_part (T : Top K mg) : Ok P w K mg base 1 "is_part" ["record", "place", "left"] (spD K PIsPart) := by
  refine ok_pure T 9 scIsPart (fun ds d h => by obtain ⟨r, p, l, rfl, _⟩ := h; rfl) (fun _ _ _ _ _ _ us hl => match us, hl with | [_, _, _], _ => rfl) (fun cdv A outer s H E hr => ⟨_, pss_one (ps_ret (pe_and (pe_cmpR op_ne (pe_ix (r := rIxT K) ix_tup (pv 0) pe_int (fun _ _ => rfl)) pe_str (nomark _)) (pe_and (pe_cmpR op_eq (pe_ix (r := rIxT K) ix_tup (pv 0) (pe_un un_neg pe_int) (fun _ _ => rfl)) (pv 1) (nomark _)) (pe_one (pe_cmpR op_eq (pe_ix (r := rIxT K) ix_tup (pv 0) (pe_un un_neg pe_int) (fun _ _ => rfl)) (pv 2) (nomark _)))))), fun ds d h => ?_⟩)
  obtain ⟨r, p, l, rfl, rfl⟩ := h
  cases r with
  | blank => exact bg_ret (eg_is (eg_and (y := false) (eg_neS (eg_ixT (eg_var rfl) eg_int rfl) eg_str) fun h => by cases h) rfl)
  | put k w p' l' =>
    exact bg_ret (eg_is (eg_and (eg_neS (eg_ixT (eg_var rfl) eg_int rfl) eg_str) fun _ => eg_and (eg_eqI (eg_ixT (eg_var rfl) (eg_U eg_int) rfl) (eg_var rfl)) fun _ => eg_eqI (eg_ixT (eg_var rfl) (eg_U eg_int) rfl) (eg_var rfl)) rfl)
  | drop k p' l' =>
    exact bg_ret (eg_is (eg_and (eg_neS (eg_ixT (eg_var rfl) eg_int rfl) eg_str) fun _ => eg_and (eg_eqI (eg_ixT (eg_var rfl) (eg_U eg_int) rfl) (eg_var rfl)) fun _ => eg_eqI (eg_ixT (eg_var rfl) (eg_U eg_int) rfl) (eg_var rfl)) rfl)
end
end HR

set_option Elab.async false
set_option linter.all false
set_option maxRecDepth 100000
set_option maxHeartbeats 4000000
namespace HR
open PySem PySem.Spec PyProof.Rows L2 Evl
theorem pe_no {X : Cx} {e : Expr} : PE X e (fun _ _ _ => False) := ⟨fun _ _ _ _ _ _ h => h.elim⟩
theorem bg_if0 {K : PySem.W.Frag} {Γ : Ctx} {t : TT} {ts tz : TS} {d : PyData} (h : QG K t Γ false) (h2 : BG K tz Γ d) : BG K (tSeq (tIfS t ts tNext) tz) Γ d := bg_if h (fun q => by cases q) fun _ => h2
theorem bg_if1 {K : PySem.W.Frag} {Γ : Ctx} {t : TT} {ts tz : TS} {d : PyData} (h : QG K t Γ true) (h2 : BG K ts Γ d) : BG K (tSeq (tIfS t ts tNext) tz) Γ d := bg_if h (fun _ => h2) fun q => by cases q
theorem eg_callL {K : PySem.W.Frag} {Γ : Ctx} {P : List PyData → PyData → Prop} {ds : List PyData} {d : PyData} {tl : TA} {X : XK} {i : Nat} {f : Addr} (hi : Γ[i]? = some (.fn f)) (h : AG K tl Γ ds) (hp : P ds d) : EG K (tCallL i f (spD K P) [] X tl) Γ d := fun H0 M L σ H E Q q =>
  ⟨E.ent i _ hi, (eg_call (X := X) h hp) H0 M L σ H E Q q⟩
theorem pe_calL {X : Cx} {k i : Nat} {x y : Str} {ps : List Str} {sp : Sp} {p pos : Pos} {e : Expr} {es : List Expr} {t : TA} {f : Addr} (O : Ok X.prog X.w X.K X.mg X.base k y ps sp) (hf : X.mg y = some (.ref f)) (hr : Room k X.A) (hN : X.N[i]? = some x) (hv : Vis X.env.scope x) (ha : PA X (e :: es) t)
    (hdb : (x == ("__debug__" : Str)) = false := by decide) (hcd : (x == ("__classdict__" : Str)) = false := by decide)
    (he : starEach (e :: es) X.env = (false, eval e X.env) :: starEach es X.env := by rfl) (hpl : (backTo pos (starEach es X.env)).any (·.1) = false := by rfl) : PE X (.Call (.Name x p) (e :: es) [] pos) (tCallL i f sp [] E0 t) := by
  obtain ⟨f', fd, F, hm, hk, hb, _⟩ := O.ex
  have e1 := hf.symm.trans hm
  cases e1
  exact pe_callL F hr hN hv hk hb .nil pass0 ha hdb hcd he hpl
section
variable {P : Program} {w : World} {K : PySem.W.Frag} {mg : Str → Option Value} {base : Heap}
theorem scSureMany : FnScope ["many"] ["many"] (defScope sSureMany) := ⟨rfl, rfl, rfl, by decide +kernel, rfl, by decide +kernel, by decide +kernel⟩
def PSureMany (ds : List PyData) (d : PyData) : Prop := ∃ n : Int, ds = [.int n] ∧ 0 ≤ n ∧ d = .int n
theorem ok_sure_many (T : Top K mg) : Ok P w K mg base 3 "sure_many" ["many"] (spD K PSureMany) := by
  have O_is_from : Ok P w K mg base 2 _ _ _ := ok_is_from T
  refine ok_pure T 12 scSureMany (fun ds d h => by obtain ⟨n, rfl, _⟩ := h; rfl) (fun _ _ _ _ _ _ us hl => match us, hl with | [_], _ => rfl) (fun cdv A outer s H E hr => ⟨_, pss_cons (ps_if (pt_not (pt_val (pe_cal O_is_from hr (pa_cons (pv 0) (pa_cons pe_int pa_nil))))) (pss_one ps_never) pss_nil)
      (pss_one (ps_ret (pv 0))), fun ds d h => ?_⟩)
  obtain ⟨n, rfl, h0, rfl⟩ := h
  exact bg_if0 (tg_is (tg_not (tg_B (eg_call (ag_cons (eg_var rfl) (ag_cons eg_int ag_nil)) ⟨n, 0, rfl, rfl⟩))) (by rw [decide_eq_true h0]; rfl)) (bg_ret (eg_var rfl))
/-! ### words, keys, singles, records -/
theorem scIsWord : FnScope ["thing", "sign"] ["thing"] (defScope sIsWord) := ⟨rfl, rfl, rfl, by decide +kernel, rfl, by decide +kernel, by decide +kernel⟩
def PIsWord (ds : List PyData) (d : PyData) : Prop := ∃ z : Str, wordOk z = true ∧ ds = [.str z] ∧ d = .bool true
theorem ok_is_word (T : Top K mg) : Ok P w K mg base 1 "is_word" ["thing"] (spD K PIsWord) := by
  obtain ⟨ts, hsg⟩ := T.signs
  obtain ⟨tl, hlg⟩ := T.longest
  refine ok_pure T 3 scIsWord (fun ds d h => by obtain ⟨z, _, rfl, _⟩ := h; rfl) (fun _ _ _ _ _ _ us hl => match us, hl with | [_], _ => rfl) (fun cdv A outer s H E hr => ⟨_, pss_one (ps_ret (pe_and (pe_callB (r := rIsi K) call_isi (by rfl) T.isinstanceN (by decide +kernel) (pa_cons (pv 0) (pa_cons (pe_bltn (v := .ty "str") (by rfl) T.strN (by decide +kernel) rfl) pa_nil))) (pe_and (pe_chain op_le op_le pe_int (pe_callB (r := rLenX K) call_lenX (by rfl) T.lenN (by decide +kernel) (pa_cons (pv 0) pa_nil)) (pe_glob (v := .int 12) (by rfl) hlg ⟨_, rfl⟩)) (pe_one (pe_callB (r := rAll K) (cr_all rfl) (by rfl) T.allN (by decide +kernel) (pa_cons (pe_lc (own := [("sign", 1)]) (g := (gName 1)) rfl scIsWord.nd (pi_str (pv 0)) (blkOk_by (N := ["thing", "sign"]) (sc := defScope sIsWord) (by decide +kernel)) (fun _ _ _ _ _ => (pg_name (i := 1) scIsWord.nd rfl (Or.inl rfl))) (fun _ _ _ _ _ => pts_nil) (fun _ _ _ _ _ => (pe_cmpR op_inSg (pv 1) (pe_glob (v := .str signs) (by rfl) hsg ⟨_, rfl⟩) (by rfl)))) pa_nil)))))), fun ds d h => ?_⟩)
  obtain ⟨z, hz, rfl, rfl⟩ := h
  obtain ⟨h1, hz2⟩ := Bool.and_eq_true_iff.mp hz
  obtain ⟨h2, h3⟩ := Bool.and_eq_true_iff.mp hz2
  have h1' := of_decide_eq_true h1
  have h2' := of_decide_eq_true h2
  refine bg_ret (eg_is (eg_and (eg_isi (eg_var rfl)) fun _ => eg_and (eg_chain eg_int (eg_lenXS (eg_var rfl) (by omega)) eg_int) fun _ =>
    eg_all (bs := z.cps.toList.map fun c => decide (c ∈ signs.cps.toList)) (eg_is (eg_lc (js := [1]) (α := Nat) (enc := fun c => .str ⟨#[c]⟩) (xs := z.cps.toList) (src_str (eg_var rfl)) (fun c => [.dat (.str z), .dat (.str ⟨#[c]⟩)]) (fun c _ => bnd_name) (fun c => .bool (decide (c ∈ signs.cps.toList))) (by rw [Array.length_toList]; show z.length ≤ 1000; omega) (fun c _ => eg_inS (eg_var rfl) eg_str)) (by rw [List.map_map]; rfl))) ?_)
  rw [List.all_map, Function.id_comp, h3]
  have e1 : decide ((1 : Int) ≤ (z.length : Int)) = true := decide_eq_true (by omega)
  have e2 : decide ((z.length : Int) ≤ 12) = true := decide_eq_true (by omega)
  rw [e1, e2]
  rfl
end
end HR

set_option Elab.async false
set_option linter.all false
set_option maxRecDepth 100000
set_option maxHeartbeats 4000000
namespace HR
open PySem PySem.Spec PyProof.Rows L2 Evl
section
variable {P : Program} {w : World} {K : PySem.W.Frag} {mg : Str → Option Value} {base : Heap}
theorem scIsKey : FnScope ["thing"] ["thing"] (defScope sIsKey) := ⟨rfl, rfl, rfl, by decide +kernel, rfl, by decide +kernel, by decide +kernel⟩
theorem ok_is_key (T : Top K mg) : Ok P w K mg base 2 "is_key" ["thing"] (spD K PIsWord) := by
  have O_is_word : Ok P w K mg base 1 _ _ _ := ok_is_word T
  refine ok_pure T 4 scIsKey (fun ds d h => by obtain ⟨z, _, rfl, _⟩ := h; rfl) (fun _ _ _ _ _ _ us hl => match us, hl with | [_], _ => rfl) (fun cdv A outer s H E hr => ⟨_, pss_one (ps_ret (pe_or (pe_cal O_is_word hr (pa_cons (pv 0) pa_nil)) (pe_one (pe_and (pe_callB (r := rIsi K) call_isi (by rfl) T.isinstanceN (by decide +kernel) (pa_cons (pv 0) (pa_cons (pe_bltn (v := .ty "str") (by rfl) T.strN (by decide +kernel) rfl) pa_nil))) (pe_and (pe_cmpR op_eq (pe_slice sl_str (pv 0) po_none (po_some pe_int)) pe_str (nomark _)) (pe_one (pe_cal O_is_word hr (pa_cons (pe_slice sl_str (pv 0) (po_some pe_int) po_none) pa_nil)))))))), fun ds d h => ?_⟩)
  obtain ⟨z, hz, rfl, rfl⟩ := h
  exact bg_ret (eg_is (eg_or (x := true) (y := true) (eg_call (ag_cons (eg_var rfl) ag_nil) ⟨z, hz, rfl, rfl⟩) fun h => by cases h) rfl)
theorem scIsSingle : FnScope ["thing"] ["thing"] (defScope sIsSingle) := ⟨rfl, rfl, rfl, by decide +kernel, rfl, by decide +kernel, by decide +kernel⟩
def PIsSingle (ds : List PyData) (d : PyData) : Prop := (∃ k : Str, wordOk k = true ∧ ds = [.tuple [.str "drop", .str k]] ∧ d = .bool true) ∨ ∃ k z : Str, wordOk k = true ∧ wordOk z = true ∧ ds = [.tuple [.str "put", .str k, .str z]] ∧ d = .bool true
theorem ok_is_single (T : Top K mg) : Ok P w K mg base 3 "is_single" ["thing"] (spD K PIsSingle) := by
  have O_is_word : Ok P w K mg base 2 _ _ _ := (ok_is_word T).mono (by decide)
  have O_is_key : Ok P w K mg base 2 _ _ _ := ok_is_key T
  refine ok_pure T 5 scIsSingle (fun ds d h => by rcases h with ⟨k, _, rfl, _⟩ | ⟨k, z, _, _, rfl, _⟩ <;> rfl) (fun _ _ _ _ _ _ us hl => match us, hl with | [_], _ => rfl) (fun cdv A outer s H E hr => ⟨_, pss_cons (ps_if (PW.pt (pw_or (pt_not (pt_val (pe_callB (r := rIsi K) call_isi (by rfl) T.isinstanceN (by decide +kernel) (pa_cons (pv 0) (pa_cons (pe_bltn (v := .ty "tuple") (by rfl) T.tupleN (by decide +kernel) rfl) pa_nil))))) (pw_or (pt_cmpR op_lt (pe_callB (r := rLenX K) call_lenX (by rfl) T.lenN (by decide +kernel) (pa_cons (pv 0) pa_nil)) pe_int (nomark _)) (pw_or (pt_not (pt_val (pe_callB (r := rIsi K) call_isi (by rfl) T.isinstanceN (by decide +kernel) (pa_cons (pe_ix (r := rIxT K) ix_tup (pv 0) pe_int (fun _ _ => rfl)) (pa_cons (pe_bltn (v := .ty "str") (by rfl) T.strN (by decide +kernel) rfl) pa_nil))))) (pw_or1 (pt_not (pt_val (pe_cal O_is_key hr (pa_cons (pe_ix (r := rIxT K) ix_tup (pv 0) pe_int (fun _ _ => rfl)) pa_nil))))))))) (pss_one (ps_ret pe_bl)) pss_nil)
      (pss_one (ps_ret (pe_or (pe_and (pe_cmpR op_eq (pe_ix (r := rIxT K) ix_tup (pv 0) pe_int (fun _ _ => rfl)) pe_str (nomark _)) (pe_one (pe_cmpR op_eq (pe_callB (r := rLenX K) call_lenX (by rfl) T.lenN (by decide +kernel) (pa_cons (pv 0) pa_nil)) pe_int (nomark _)))) (pe_one (pe_and (pe_cmpR op_eq (pe_ix (r := rIxT K) ix_tup (pv 0) pe_int (fun _ _ => rfl)) pe_str (nomark _)) (pe_and (pe_cmpR op_eq (pe_callB (r := rLenX K) call_lenX (by rfl) T.lenN (by decide +kernel) (pa_cons (pv 0) pa_nil)) pe_int (nomark _)) (pe_one (pe_cal O_is_word hr (pa_cons (pe_ix (r := rIxT K) ix_tup (pv 0) pe_int (fun _ _ => rfl)) pa_nil))))))))), fun ds d h => ?_⟩)
  rcases h with ⟨k, hk, rfl, rfl⟩ | ⟨k, z, hk, hz, rfl, rfl⟩
  · refine bg_if0 (tg_is (tg_or (tg_not (tg_B (eg_isi (eg_var rfl)))) fun _ => tg_or (tg_T (eg_IB (eg_lenXT (eg_var rfl)) eg_int)) fun _ => tg_or (tg_not (tg_B (eg_isi (eg_ixT (eg_var rfl) eg_int rfl)))) fun _ =>
      tg_not (tg_B (eg_call (ag_cons (eg_ixT (eg_var rfl) eg_int rfl) ag_nil) ⟨k, hk, rfl, rfl⟩))) rfl) ?_
    exact bg_ret (eg_is (eg_or (x := true) (y := true) (eg_is (eg_and (eg_eqS (eg_ixT (eg_var rfl) eg_int rfl) eg_str) fun _ => eg_eqI (eg_lenXT (eg_var rfl)) eg_int) rfl) fun h => by cases h) rfl)
  · refine bg_if0 (tg_is (tg_or (tg_not (tg_B (eg_isi (eg_var rfl)))) fun _ => tg_or (tg_T (eg_IB (eg_lenXT (eg_var rfl)) eg_int)) fun _ => tg_or (tg_not (tg_B (eg_isi (eg_ixT (eg_var rfl) eg_int rfl)))) fun _ =>
      tg_not (tg_B (eg_call (ag_cons (eg_ixT (eg_var rfl) eg_int rfl) ag_nil) ⟨k, hk, rfl, rfl⟩))) rfl) ?_
    exact bg_ret (eg_is (eg_or (eg_and (y := false) (eg_eqS (eg_ixT (eg_var rfl) eg_int rfl) eg_str) fun h => absurd (of_decide_eq_true h) (by decide)) fun _ =>
      eg_and (eg_eqS (eg_ixT (eg_var rfl) eg_int rfl) eg_str) fun _ => eg_and (eg_eqI (eg_lenXT (eg_var rfl)) eg_int) fun _ => eg_call (ag_cons (eg_ixT (eg_var rfl) eg_int rfl) ag_nil) ⟨z, hz, rfl, rfl⟩) rfl)
theorem scIsRecord : FnScope ["thing"] ["thing"] (defScope sIsRecord) := ⟨rfl, rfl, rfl, by decide +kernel, rfl, by decide +kernel, by decide +kernel⟩
def PIsRecord (ds : List PyData) (d : PyData) : Prop := ∃ r : Rec, recOk r = true ∧ ds = [enc r] ∧ d = .bool true
theorem ok_is_record (T : Top K mg) : Ok P w K mg base 4 "is_record" ["thing"] (spD K PIsRecord) := by
  have O_is_single : Ok P w K mg base 3 _ _ _ := ok_is_single T
  have O_is_from : Ok P w K mg base 3 _ _ _ := (ok_is_from T).mono (by decide)
  refine ok_pure T 6 scIsRecord (fun ds d h => by obtain ⟨r, _, rfl, _⟩ := h; rfl) (fun _ _ _ _ _ _ us hl => match us, hl with | [_], _ => rfl) (fun cdv A outer s H E hr => ⟨_, pss_cons (ps_if (PW.pt (pw_or (pt_not (pt_val (pe_callB (r := rIsi K) call_isi (by rfl) T.isinstanceN (by decide +kernel) (pa_cons (pv 0) (pa_cons (pe_bltn (v := .ty "tuple") (by rfl) T.tupleN (by decide +kernel) rfl) pa_nil))))) (pw_or (pt_cmpR op_eq (pe_callB (r := rLenX K) call_lenX (by rfl) T.lenN (by decide +kernel) (pa_cons (pv 0) pa_nil)) pe_int (nomark _)) (pw_or1 (pt_not (pt_val (pe_callB (r := rIsi K) call_isi (by rfl) T.isinstanceN (by decide +kernel) (pa_cons (pe_ix (r := rIxT K) ix_tup (pv 0) pe_int (fun _ _ => rfl)) (pa_cons (pe_bltn (v := .ty "str") (by rfl) T.strN (by decide +kernel) rfl) pa_nil))))))))) (pss_one (ps_ret pe_bl)) pss_nil)
      (pss_cons (ps_if (pt_cmpR op_eq (pe_ix (r := rIxT K) ix_tup (pv 0) pe_int (fun _ _ => rfl)) pe_str (nomark _)) (pss_one (ps_ret (pe_cmpR op_eq (pe_callB (r := rLenX K) call_lenX (by rfl) T.lenN (by decide +kernel) (pa_cons (pv 0) pa_nil)) pe_int (nomark _)))) pss_nil)
      (pss_one (ps_ret (pe_and (pe_cmpR op_gt (pe_callB (r := rLenX K) call_lenX (by rfl) T.lenN (by decide +kernel) (pa_cons (pv 0) pa_nil)) pe_int (nomark _)) (pe_and (pe_cal O_is_single hr (pa_cons (pe_slice (r := rSlA K) sl_tupA (pv 0) po_none (po_some (pe_un un_neg pe_int))) pa_nil)) (pe_and (pe_cal O_is_from hr (pa_cons (pe_ix (r := rIxT K) ix_tup (pv 0) (pe_un un_neg pe_int) (fun _ _ => rfl)) (pa_cons pe_int pa_nil))) (pe_one (pe_cal O_is_from hr (pa_cons (pe_ix (r := rIxT K) ix_tup (pv 0) (pe_un un_neg pe_int) (fun _ _ => rfl)) (pa_cons pe_int pa_nil)))))))))), fun ds d h => ?_⟩)
  obtain ⟨r, ho, rfl, rfl⟩ := h
  cases r with
  | blank =>
    refine bg_if0 (tg_is (tg_or (tg_not (tg_B (eg_isi (eg_var rfl)))) fun _ => tg_or (tg_T (eg_eqI (eg_lenXT (eg_var rfl)) eg_int)) fun _ => tg_not (tg_B (eg_isi (eg_ixT (eg_var rfl) eg_int rfl)))) rfl) ?_
    refine bg_if1 (tg_is (tg_T (eg_eqS (eg_ixT (eg_var rfl) eg_int rfl) eg_str)) rfl) ?_
    exact bg_ret (eg_is (eg_eqI (eg_lenXT (eg_var rfl)) eg_int) rfl)
  | put k z p l =>
    obtain ⟨hk, hz⟩ := Bool.and_eq_true_iff.mp (show (wordOk k && wordOk z) = true from ho)
    refine bg_if0 (tg_is (tg_or (tg_not (tg_B (eg_isi (eg_var rfl)))) fun _ => tg_or (tg_T (eg_eqI (eg_lenXT (eg_var rfl)) eg_int)) fun _ => tg_not (tg_B (eg_isi (eg_ixT (eg_var rfl) eg_int rfl)))) rfl) ?_
    refine bg_if0 (tg_is (tg_T (eg_eqS (eg_ixT (eg_var rfl) eg_int rfl) eg_str)) rfl) ?_
    refine bg_ret (eg_is (eg_and (eg_IB (eg_lenXT (eg_var rfl)) eg_int) fun _ => eg_and (eg_call (ag_cons (eg_slT (eg_var rfl) og_none (og_some (eg_U eg_int))) ag_nil) (.inr ⟨k, z, hk, hz, rfl, rfl⟩)) fun _ =>
      eg_and (eg_call (ag_cons (eg_ixT (eg_var rfl) (eg_U eg_int) rfl) (ag_cons eg_int ag_nil)) ⟨p, 0, rfl, rfl⟩) fun _ => eg_call (ag_cons (eg_ixT (eg_var rfl) (eg_U eg_int) rfl) (ag_cons eg_int ag_nil)) ⟨l, 0, rfl, rfl⟩) ?_)
    rw [decide_eq_true (show (0 : Int) ≤ p by omega), decide_eq_true (show (0 : Int) ≤ l by omega)]
    rfl
  | drop k p l =>
    have hk : wordOk k = true := ho
    refine bg_if0 (tg_is (tg_or (tg_not (tg_B (eg_isi (eg_var rfl)))) fun _ => tg_or (tg_T (eg_eqI (eg_lenXT (eg_var rfl)) eg_int)) fun _ => tg_not (tg_B (eg_isi (eg_ixT (eg_var rfl) eg_int rfl)))) rfl) ?_
    refine bg_if0 (tg_is (tg_T (eg_eqS (eg_ixT (eg_var rfl) eg_int rfl) eg_str)) rfl) ?_
    refine bg_ret (eg_is (eg_and (eg_IB (eg_lenXT (eg_var rfl)) eg_int) fun _ => eg_and (eg_call (ag_cons (eg_slT (eg_var rfl) og_none (og_some (eg_U eg_int))) ag_nil) (.inl ⟨k, hk, rfl, rfl⟩)) fun _ =>
      eg_and (eg_call (ag_cons (eg_ixT (eg_var rfl) (eg_U eg_int) rfl) (ag_cons eg_int ag_nil)) ⟨p, 0, rfl, rfl⟩) fun _ => eg_call (ag_cons (eg_ixT (eg_var rfl) (eg_U eg_int) rfl) (ag_cons eg_int ag_nil)) ⟨l, 0, rfl, rfl⟩) ?_)
    rw [decide_eq_true (show (0 : Int) ≤ p by omega), decide_eq_true (show (0 : Int) ≤ l by omega)]
    rfl
/-! ### tupled -/
theorem scTupled : FnScope ["value", "own"] ["value"] (defScope sTupled) := ⟨rfl, rfl, rfl, by decide +kernel, rfl, by decide +kernel, by decide +kernel⟩
def PTup (n : Nat) (ds : List PyData) (d : PyData) : Prop := ∃ x : PyData, okT n x = true ∧ ds = [x] ∧ d = tupN n x
theorem ok_tupled (T : Top K mg) : ∀ n : Nat, Ok P w K mg base (n + 1) "tupled" ["value"] (spD K (PTup n))
  | 0 => by
    refine ok_pure T 2 scTupled (fun ds d h => by obtain ⟨x, _, rfl, _⟩ := h; rfl) (fun _ _ _ _ _ _ us hl => match us, hl with | [_], _ => rfl) (fun cdv A outer s H E hr => ⟨_,
      pss_one (ps_ret (pe_ifExp (pt_val (pe_callB call_isiT (by rfl) T.isinstanceN (by decide +kernel) (pa_cons (pv 0) (pa_cons (pe_tup (pa_cons (pe_bltn (v := .ty "list") (by rfl) T.listN (by decide +kernel) rfl) (pa_cons (pe_bltn (v := .ty "tuple") (by rfl) T.tupleN (by decide +kernel) rfl) pa_nil))) pa_nil)))) pe_no (pv 0))), fun ds d h => ?_⟩)
    obtain ⟨x, hx, rfl, e⟩ := h
    have e1 : d = x := e
    subst e1
    refine bg_ret (eg_if (tg_B (eg_isi2 (eg_var rfl))) (fun h => ?_) fun _ => eg_var rfl)
    cases d with
    | list ds => unfold okT at hx; cases hx
    | tuple ds => unfold okT at hx; cases hx
    | dict kvs => unfold okT at hx; cases hx
    | none => exact absurd h (by decide)
    | bool b => exact absurd h (by show ¬ (isS "bool" "list" || isS "bool" "tuple") = true; decide)
    | int b => exact absurd h (by show ¬ (isS "int" "list" || isS "int" "tuple") = true; decide)
    | str b => exact absurd h (by show ¬ (isS "str" "list" || isS "str" "tuple") = true; decide)
  | n + 1 => by
    have O_tupled : Ok P w K mg base (n + 1) _ _ _ := ok_tupled T n
    refine ok_pure T 2 scTupled (fun ds d h => by obtain ⟨x, _, rfl, _⟩ := h; rfl) (fun _ _ _ _ _ _ us hl => match us, hl with | [_], _ => rfl) (fun cdv A outer s H E hr => ⟨_, pss_one (ps_ret (pe_ifExp (pt_val (pe_callB (r := rIsiT K) call_isiT (by rfl) T.isinstanceN (by decide +kernel) (pa_cons (pv 0) (pa_cons (pe_tup (pa_cons (pe_bltn (v := .ty "list") (by rfl) T.listN (by decide +kernel) rfl) (pa_cons (pe_bltn (v := .ty "tuple") (by rfl) T.tupleN (by decide +kernel) rfl) pa_nil))) pa_nil)))) (pe_callTy (r := rTupS K) call_tupS (by rfl) T.tupleN (by decide +kernel) (pa_cons (pe_lc (own := [("own", 1)]) (g := (gName 1)) rfl scTupled.nd (pi_seq (pv 0)) (blkOk_by (N := ["value", "own"]) (sc := defScope sTupled) (by decide +kernel)) (fun _ _ _ _ _ => (pg_name (i := 1) scTupled.nd rfl (Or.inl rfl))) (fun _ _ _ _ _ => pts_nil) (fun _ _ _ _ _ => (pe_cal O_tupled hr (pa_cons (pv 1) pa_nil)))) pa_nil)) (pv 0))), fun ds d h => ?_⟩)
    obtain ⟨x, hx, rfl, rfl⟩ := h
    cases x with
    | list xs =>
      obtain ⟨h1, h2⟩ := Bool.and_eq_true_iff.mp (show (decide (xs.length ≤ 1000) && xs.all (okT n)) = true from hx)
      refine bg_ret (eg_if (b := true) (tg_is (tg_B (eg_isi2 (eg_var rfl))) rfl) (fun _ => ?_) fun h => by cases h)
      have S : Src K (iSeq K (tVar 0)) (Γ0 2 [.list xs]) (xs.map fun x => x) := by
        rw [List.map_id']
        exact src_seqL (eg_var rfl)
      exact eg_tupL (eg_lc (js := [1]) (α := PyData) (enc := fun x => x) (xs := xs) S (fun x => [.dat (.list xs), .dat x]) (fun x _ => bnd_name) (tupN n) (of_decide_eq_true h1)
        fun x hm => eg_call (ag_cons (eg_var rfl) ag_nil) ⟨x, List.all_eq_true.mp h2 x hm, rfl, rfl⟩)
    | tuple xs =>
      obtain ⟨h1, h2⟩ := Bool.and_eq_true_iff.mp (show (decide (xs.length ≤ 1000) && xs.all (okT n)) = true from hx)
      refine bg_ret (eg_if (b := true) (tg_is (tg_B (eg_isi2 (eg_var rfl))) rfl) (fun _ => ?_) fun h => by cases h)
      have S : Src K (iSeq K (tVar 0)) (Γ0 2 [.tuple xs]) (xs.map fun x => x) := by
        rw [List.map_id']
        exact src_seqT (eg_var rfl)
      exact eg_tupL (eg_lc (js := [1]) (α := PyData) (enc := fun x => x) (xs := xs) S (fun x => [.dat (.tuple xs), .dat x]) (fun x _ => bnd_name) (tupN n) (of_decide_eq_true h1)
        fun x hm => eg_call (ag_cons (eg_var rfl) ag_nil) ⟨x, List.all_eq_true.mp h2 x hm, rfl, rfl⟩)
    | dict kvs => unfold okT at hx; cases hx
    | none => exact bg_ret (eg_if (b := false) (tg_is (tg_B (eg_isi2 (eg_var rfl))) (by decide)) (fun h => by cases h) fun _ => eg_var rfl)
    | bool b => exact bg_ret (eg_if (b := false) (tg_is (tg_B (eg_isi2 (eg_var rfl))) (by show (isS "bool" "list" || isS "bool" "tuple") = false; decide)) (fun h => by cases h) fun _ => eg_var rfl)
    | int b => exact bg_ret (eg_if (b := false) (tg_is (tg_B (eg_isi2 (eg_var rfl))) (by show (isS "int" "list" || isS "int" "tuple") = false; decide)) (fun h => by cases h) fun _ => eg_var rfl)
    | str b => exact bg_ret (eg_if (b := false) (tg_is (tg_B (eg_isi2 (eg_var rfl))) (by show (isS "str" "list" || isS "str" "tuple") = false; decide)) (fun h => by cases h) fun _ => eg_var rfl)
end
end HR

set_option Elab.async false
set_option linter.all false
set_option maxRecDepth 100000
set_option maxHeartbeats 4000000
namespace HR
open PySem PySem.Spec PyProof.Rows L2 Evl
/-- the slots at a def's entry -/
theorem env_of {K : PySem.W.Frag} {H0 H : Hp} {M L : List Addr} {N : List Str} {vs : List V} {es : List Ent} (hv : vs.length = es.length) (hl : ∀ a ∈ L, ∃ o, H a = some o) (hs : ∀ a ∈ M, a ∈ L) (hb : Ex H0 (er M H)) (h : ∀ (i : Nat) (e : Ent), es[i]? = some e → EntOk K L H (vs[i]?.map some) e) :
    Env K H0 M L (L2.start N vs) H (es ++ List.replicate (N.length - es.length) Ent.no) where
  len := by
    unfold L2.start
    rw [List.length_append, List.length_append, List.length_map, List.length_replicate, List.length_replicate, hv]
  live := hl
  sub := hs
  base := hb
  ent := fun i e he => by
    by_cases q : i < es.length
    · rw [List.getElem?_append_left q] at he
      unfold L2.start
      rw [List.getElem?_append_left (by rw [List.length_map, hv]; exact q), List.getElem?_map]
      exact h i e he
    · rw [List.getElem?_append_right (by omega)] at he
      rw [List.eq_of_mem_replicate (List.mem_of_getElem? he)]
      trivial
section
variable {P : Program} {w : World} {K : PySem.W.Frag} {mg : Str → Option Value} {base : Heap}
theorem scSureRows : FnScope ["things", "look", "own", "one"] ["things", "look"] (defScope sSureRows) := ⟨rfl, rfl, rfl, by decide +kernel, rfl, by decide +kernel, by decide +kernel⟩
def spSureRows (K : PySem.W.Frag) : Sp := fun vs H Q _ => ∃ (L : List Addr) (v : V) (x : PyData) (rs : List Rec), (∀ a ∈ L, ∃ o, H a = some o) ∧ vs = [v, .ref (He.ga K "is_record")] ∧ Dp K (er L H) v x ∧ RowIn x rs ∧ ∀ v' H', Ex H H' → Dp K (er L H') v' (rowD rs) → Q v' H'
theorem ok_sure_rows (T : Top K mg) : Ok P w K mg base 6 "sure_rows" ["things", "look"] (spSureRows K) := by
  have O_tupled : Ok P w K mg base 5 _ _ _ := (ok_tupled T 2).mono (by decide)
  have O_is_record : Ok P w K mg base 5 _ _ _ := (ok_is_record T).mono (by decide)
  refine ok_def T 7 7 scSureRows (fun vs H Q E h => by obtain ⟨L, v, x, rs, _, rfl, _⟩ := h; rfl) (fun _ _ _ _ _ _ us hl => match us, hl with | [_, _], _ => rfl) (fun cdv A outer s H vs Q E hr h => ?_)
  obtain ⟨L, v, x, rs, hl, rfl, hx, hrow, q⟩ := h
  have Flook := O_is_record
  refine ⟨_, pss_cons (ps_set (i := 2) scSureRows.nd rfl (.inl rfl) (pe_cal O_tupled hr (pa_cons (pv 0) pa_nil)))
      (pss_cons (ps_if (PW.pt (pw_or (pt_not (pt_val (pe_callB (r := rIsi K) call_isi (by rfl) T.isinstanceN (by decide +kernel) (pa_cons (pv 2) (pa_cons (pe_bltn (v := .ty "tuple") (by rfl) T.tupleN (by decide +kernel) rfl) pa_nil))))) (pw_or1 (pt_not (pt_val (pe_callB (r := rAll K) (cr_all rfl) (by rfl) T.allN (by decide +kernel) (pa_cons (pe_lc (own := [("one", 3)]) (g := (gName 3)) rfl scSureRows.nd (pi_seq (pv 2)) (blkOk_by (N := ["things", "look", "own", "one"]) (sc := defScope sSureRows) (by decide +kernel)) (fun _ _ _ _ _ => (pg_name (i := 3) scSureRows.nd rfl (Or.inl rfl))) (fun _ _ _ _ _ => pts_nil) (fun _ _ _ _ _ => (pe_calL (i := 1) Flook (T.g 6) hr (by rfl) (.inr (.inl rfl)) (pa_cons (pv 3) pa_nil)))) pa_nil))))))) (pss_one ps_never) pss_nil)
      (pss_one (ps_ret (pv 2)))), ?_⟩
  have E0' := env_of (K := K) (H0 := H) (M := []) (L := L) (N := ["things", "look", "own", "one"]) (vs := [v, .ref (He.ga K "is_record")]) (es := [.dat x, .fn (He.ga K "is_record")]) rfl hl (fun a ha => by cases ha) (by rw [er_nil]; exact Ex.refl H) (fun i e he => by
    match i, he with
    | 0, he => cases Option.some.inj he; exact ⟨v, rfl, hx⟩
    | 1, he => cases Option.some.inj he; rfl)
  suffices B : BG K _ _ (rowD rs) from B H [] L _ H _ E0' q
  refine bg_asg (d := rowD rs) (eg_call (ag_cons (eg_var rfl) ag_nil) ⟨x, hrow.ok, rfl, hrow.eq.symm⟩) ?_
  refine bg_if0 (tg_is (tg_or (tg_not (tg_B (eg_isi (eg_var rfl)))) fun _ => tg_not (tg_B (eg_all (bs := rs.map fun _ => true) (eg_is (eg_lc (js := [3]) (α := Rec) (enc := enc) (xs := rs) (src_seqT (eg_var rfl)) (fun r => [.dat x, .fn (He.ga K "is_record"), .dat (rowD rs), .dat (enc r)]) (fun r _ => bnd_name) (fun _ => .bool true) (Nat.le_trans hrow.small (by decide))
    fun r hm => eg_callL rfl (ag_cons (eg_var rfl) ag_nil) ⟨r, hrow.good r hm, rfl, rfl⟩) (by rw [List.map_map]; rfl))))) ?_) (bg_ret (eg_var rfl))
  have e : (rs.map fun _ => true).all id = true := by
    rw [List.all_map, List.all_eq_true]
    intro _ _
    rfl
  rw [e]
  rfl
theorem scSureRecords : FnScope ["records"] ["records"] (defScope sSureRecords) := ⟨rfl, rfl, rfl, by decide +kernel, rfl, by decide +kernel, by decide +kernel⟩
def PSure (ds : List PyData) (d : PyData) : Prop := ∃ (x : PyData) (rs : List Rec), RowIn x rs ∧ ds = [x] ∧ d = rowD rs
theorem ok_sure_records (T : Top K mg) : Ok P w K mg base 7 "sure_records" ["records"] (spD K PSure) := by
  have O_sure_rows : Ok P w K mg base 6 _ _ _ := ok_sure_rows T
  refine ok_pure T 8 scSureRecords (fun ds d h => by obtain ⟨x, rs, _, rfl, _⟩ := h; rfl) (fun _ _ _ _ _ _ us hl => match us, hl with | [_], _ => rfl) (fun cdv A outer s H E hr => ⟨_, pss_one (ps_ret (pe_cal O_sure_rows hr (pa_cons (pv 0) (pa_cons (pe_glob (v := .ref (He.ga K "is_record")) (by rfl) (T.g 6) rfl) pa_nil)))), fun ds d h => ?_⟩)
  obtain ⟨x, rs, hrow, rfl, rfl⟩ := h
  refine bg_ret fun H0 M L σ H E Q q => ?_
  obtain ⟨v, h1, h2⟩ := E.ent 0 (.dat x) rfl
  exact ⟨v, h1, L, v, x, rs, E.live, rfl, h2, hrow, fun v' H' e h => q v' H' e h⟩
end
end HR

set_option Elab.async false
set_option linter.all false
set_option maxRecDepth 100000
set_option maxHeartbeats 4000000
namespace HR
open PySem PySem.Spec PyProof.Rows L2 Evl
theorem at_row {rs : List Rec} {i : Int} {j : Nat} (e : i = (j : Int)) (h : j < rs.length) : atI (rs.map enc) i = some (enc (recAt rs j)) := by
  rw [e]
  refine atI_nat ?_
  rw [List.getElem?_map, List.getElem?_eq_getElem h]
  unfold recAt
  rw [List.getD_eq_getElem?_getD, List.getElem?_eq_getElem h]
  rfl
section
variable {P : Program} {w : World} {K : PySem.W.Frag} {mg : Str → Option Value} {base : Heap}
theorem scPartsClosed : FnScope ["records", "number", "own", "many", "far"] ["records", "number"] (defScope sPartsClosed) := ⟨rfl, rfl, rfl, by decide +kernel, rfl, by decide +kernel, by decide +kernel⟩
def PPartsClosed (ds : List PyData) (d : PyData) : Prop := ∃ (rs : List Rec) (i : Nat), i < rs.length ∧ rs.length ≤ 40 ∧ ds = [rowD rs, .int (i : Nat)] ∧ d = .int (partsClosed rs i : Nat)
theorem ok_parts_closed (T : Top K mg) : Ok P w K mg base 2 "parts_closed" ["records", "number"] (spD K PPartsClosed) := by
  have O_is_part : Ok P w K mg base 1 _ _ _ := ok_is_part T
  refine ok_pure T 10 scPartsClosed (fun ds d h => by obtain ⟨rs, i, _, _, rfl, _⟩ := h; rfl) (fun _ _ _ _ _ _ us hl => match us, hl with | [_, _], _ => rfl) (fun cdv A outer s H E hr => ⟨_, pss_cons (ps_set (i := 2) scPartsClosed.nd rfl (.inr rfl) (pe_ix (r := rIxT K) ix_tup (pv 0) (pv 1) (fun _ _ => rfl)))
      (pss_cons (ps_if (PW.pt (pw_or (pt_cmpR op_eq (pe_ix (r := rIxT K) ix_tup (pv 2) pe_int (fun _ _ => rfl)) pe_str (nomark _)) (pw_or1 (pt_cmpR op_ne (pe_ix (r := rIxT K) ix_tup (pv 2) (pe_un un_neg pe_int) (fun _ _ => rfl)) pe_int (nomark _))))) (pss_one (ps_ret pe_int)) pss_nil)
      (pss_cons (ps_set (i := 3) scPartsClosed.nd rfl (.inl rfl) (pe_callB call_min2X (by rfl) T.minN (by decide +kernel) (pa_cons (pe_ix (r := rIxT K) ix_tup (pv 2) (pe_un un_neg pe_int) (fun _ _ => rfl)) (pa_cons (pv 1) pa_nil))))
      (pss_cons (ps_if (pt_not (pt_val (pe_callB (r := rAll K) (cr_all rfl) (by rfl) T.allN (by decide +kernel) (pa_cons (pe_lc (own := [("far", 4)]) (g := (gName 4)) rfl scPartsClosed.nd (pi_range2 (by rfl) T.rangeN (pa_cons pe_int (pa_cons (pe_op op_add (pv 3) pe_int) pa_nil))) (blkOk_by (N := ["records", "number", "own", "many", "far"]) (sc := defScope sPartsClosed) (by decide +kernel)) (fun _ _ _ _ _ => (pg_name (i := 4) scPartsClosed.nd rfl (Or.inl rfl))) (fun _ _ _ _ _ => pts_nil) (fun _ _ _ _ _ => (pe_cal O_is_part hr (pa_cons (pe_ix (r := rIxT K) ix_tup (pv 0) (pe_op op_sub (pv 1) (pv 4)) (fun _ _ => rfl)) (pa_cons (pe_op op_sub (pe_ix (r := rIxT K) ix_tup (pv 2) (pe_un un_neg pe_int) (fun _ _ => rfl)) (pv 4)) (pa_cons (pv 4) pa_nil)))))) pa_nil)))) (pss_one (ps_ret pe_int)) pss_nil)
      (pss_one (ps_ret (pe_op op_add (pv 3) pe_int)))))), fun ds d h => ?_⟩)
  obtain ⟨rs, i, hi, hn, rfl, rfl⟩ := h
  refine bg_asg (d := enc (recAt rs i)) (eg_ixT (eg_var rfl) (eg_var rfl) (at_row rfl hi)) ?_
  have hcl : partsClosed rs i = if (recAt rs i).isBlank || !decide ((recAt rs i).left = 0) then 0
      else if (List.range (min (recAt rs i).place i)).all (partOk rs i (recAt rs i).place) then min (recAt rs i).place i + 1 else 0 := rfl
  generalize hr' : recAt rs i = r at hcl ⊢
  by_cases hb : r.isBlank = true
  · refine bg_if1 (tg_is (tg_or (y := true) (tg_T (eg_eqS (eg_ixT (eg_var rfl) eg_int (at_0 r)) eg_str)) fun h => ?_) ?_) (bg_ret (eg_is eg_int ?_))
    · rw [tag_blank, hb] at h
      cases h
    · rw [tag_blank, hb]
      rfl
    · rw [hcl, hb]
      rfl
  · have hb' : r.isBlank = false := Bool.not_eq_true _ ▸ hb
    by_cases hl : r.left = 0
    · refine bg_if0 (tg_is (tg_or (tg_T (eg_eqS (eg_ixT (eg_var rfl) eg_int (at_0 r)) eg_str)) fun _ => tg_T (eg_neI (eg_ixT (eg_var rfl) (eg_U eg_int) (at_m1 hb')) eg_int)) ?_) ?_
      · rw [tag_blank, hb', hl]
        rfl
      have hcl2 : partsClosed rs i = if (List.range (min r.place i)).all (partOk rs i r.place) then min r.place i + 1 else 0 := by
        rw [hcl, hb', hl]
        rfl
      have hm : min r.place i ≤ i := Nat.min_le_right _ _
      refine bg_asg (d := .int ((min r.place i : Nat) : Int)) (eg_is (eg_min2 (eg_ixT (eg_var rfl) (eg_U eg_int) (at_m2 hb')) (eg_var rfl)) ?_) ?_
      · congr 1
        split <;> omega
      generalize hmm : min r.place i = m at hcl2 hm ⊢
      have hpm : m ≤ r.place := by omega
      refine bg_if (tg_not (tg_B (eg_all (bs := (List.range m).map (partOk rs i r.place)) (eg_is (eg_lc (js := [4]) (α := Nat) (enc := fun j => .int ((1 + j : Nat) : Int)) (xs := List.range m)
        (src_rng2 (n := m) (lo := 1) (ag_cons eg_int (ag_cons (eg_is (eg_II (eg_var (i := 3) rfl) eg_int) (by congr 1; omega)) ag_nil)) (by omega))
        (fun j => [.dat (rowD rs), .dat (.int i), .dat (enc r), .dat (.int m), .dat (.int ((1 + j : Nat) : Int))]) (fun j _ => bnd_name) (fun j => .bool (partOk rs i r.place j)) (by rw [List.length_range]; omega)
        (fun j hj => eg_call (ag_cons (eg_ixT (eg_var (i := 0) rfl) (eg_II (eg_var (i := 1) rfl) (eg_var (i := 4) rfl)) (at_row (j := i - (1 + j)) (by have := List.mem_range.mp hj; omega) (by omega)))
          (ag_cons (eg_II (eg_ixT (eg_var (i := 2) rfl) (eg_U eg_int) (at_m2 hb')) (eg_var (i := 4) rfl)) (ag_cons (eg_var (i := 4) rfl) ag_nil))) ⟨_, _, _, rfl, rfl⟩)) (by rw [List.map_map]; rfl))))) (fun h => ?_) fun h => ?_
      · rw [List.all_map, Function.id_comp, Bool.not_eq_true'] at h
        refine bg_ret (eg_is eg_int ?_)
        rw [hcl2, h]
        rfl
      · rw [List.all_map, Function.id_comp, Bool.not_eq_false'] at h
        refine bg_ret (eg_is (eg_II (eg_var rfl) eg_int) ?_)
        rw [hcl2, h]
        rfl
    · refine bg_if1 (tg_is (tg_or (tg_T (eg_eqS (eg_ixT (eg_var rfl) eg_int (at_0 r)) eg_str)) fun _ => tg_T (eg_neI (eg_ixT (eg_var rfl) (eg_U eg_int) (at_m1 hb')) eg_int)) ?_) (bg_ret (eg_is eg_int ?_))
      · rw [tag_blank, hb', decide_eq_false (show ¬ ((r.left : Nat) : Int) = 0 by omega)]
        rfl
      · rw [hcl, hb', decide_eq_false hl]
        rfl
end
end HR

set_option Elab.async false
set_option linter.all false
set_option maxRecDepth 100000
set_option maxHeartbeats 4000000
namespace HR
open PySem PySem.Spec PyProof.Rows L2 Evl
/-- the singles of a record, as the slice gives them -/
theorem cut_single (r : Rec) : cutD (encL r) none (some (-2)) = (match r with | .blank => [] | .put k w _ _ => [.str "put", .str k, .str w] | .drop k _ _ => [.str "drop", .str k]) := by
  cases r <;> rfl
theorem enc_single (r : Rec) : PyData.tuple (cutD (encL r) none (some (-2))) = encS r := by
  cases r <;> rfl
theorem cut_map {α β : Type} (f : α → β) (xs : List α) (lo hi : Option Int) : cutD (xs.map f) lo hi = (cutD xs lo hi).map f := by
  unfold cutD
  rw [List.length_map, List.map_take, List.map_drop]
theorem cut_nat {α : Type} (xs : List α) (i j : Nat) (hi : i ≤ xs.length) (hj : j ≤ xs.length) : cutD xs (some (i : Int)) (some (j : Int)) = (xs.drop i).take (j - i) := by
  unfold cutD
  rw [HT.sIx_nat, HT.sIx_nat, Nat.min_eq_left hi, Nat.min_eq_left hj]
theorem cut_from {α : Type} (xs : List α) (i : Nat) : cutD xs (some (i : Int)) none = xs.drop i := by
  unfold cutD
  rw [HT.sIx_nat, HT.sIx_none]
  by_cases h : i ≤ xs.length
  · rw [Nat.min_eq_left h]
    exact List.take_of_length_le (by rw [List.length_drop]; omega)
  · rw [Nat.min_eq_right (by omega), List.drop_of_length_le (by omega : xs.length ≤ i), List.drop_length]
    exact List.take_nil
theorem cut_to {α : Type} (xs : List α) (j : Nat) : cutD xs none (some (j : Int)) = xs.take j := by
  unfold cutD
  rw [HT.sIx_nat, HT.sIx_none]
  show (xs.take (min j xs.length - 0)) = _
  rw [Nat.sub_zero]
  by_cases h : j ≤ xs.length
  · rw [Nat.min_eq_left h]
  · rw [Nat.min_eq_right (by omega), List.take_length, List.take_of_length_le (by omega)]
section
variable {P : Program} {w : World} {K : PySem.W.Frag} {mg : Str → Option Value} {base : Heap}
theorem scClosedRows : FnScope ["records", "found", "number", "many", "own"] ["records"] (defScope sClosedRows) := ⟨rfl, rfl, rfl, by decide +kernel, rfl, by decide +kernel, by decide +kernel⟩
def PClosed (ds : List PyData) (d : PyData) : Prop := ∃ (rs : List Rec), rs.length ≤ 40 ∧ ds = [rowD rs] ∧ d = .list (closedD rs rs.length)
theorem ok_closed_rows (T : Top K mg) : Ok P w K mg base 3 "closed_rows" ["records"] (spD K PClosed) := by
  have O_parts_closed : Ok P w K mg base 2 _ _ _ := ok_parts_closed T
  refine ok_def T 11 11 scClosedRows (fun vs H Q E h => by obtain ⟨L, ds, d, _, hd, ⟨rs, _, rfl, _⟩, _⟩ := h; rw [dps_len hd]; rfl) (fun _ _ _ _ _ _ us hl => match us, hl with | [_], _ => rfl) (fun cdv A outer s H vs Q E hr h => ?_)
  obtain ⟨L, ds, d, hl, hd, ⟨rs, hn, rfl, rfl⟩, q⟩ := h
  refine ⟨_, pss_cons (ps_set (i := 1) scClosedRows.nd rfl (.inl rfl) (pe_lst pa_nil))
      (pss_cons (ps_for PassesOwn.never rfl (pi_range1 (by rfl) T.rangeN (pa_cons (pe_callB (r := rLenX K) call_lenX (by rfl) T.lenN (by decide +kernel) (pa_cons (pv 0) pa_nil)) pa_nil)) (pg_name (i := 2) scClosedRows.nd rfl (Or.inl rfl))
      (pss_cons (ps_set (i := 3) scClosedRows.nd rfl (.inl rfl) (pe_cal O_parts_closed hr (pa_cons (pv 0) (pa_cons (pv 2) pa_nil))))
      (pss_one (ps_if (pt_cmpR op_gt (pv 3) pe_int (nomark _)) (pss_one (ps_expr (pe_bm PySem.F.plainAttrs_list PySem.F.slot_list_append PySem.F.type_list_append mt_append (pv 1) (pa_cons (pe_tup (pa_cons (pv 2) (pa_cons (pe_callTy (r := rTupS K) call_tupS (by rfl) T.tupleN (by decide +kernel) (pa_cons (pe_lc (own := [("own", 4)]) (g := (gName 4)) rfl scClosedRows.nd (pi_tup (pe_slice (r := rSlA K) sl_tupA (pv 0) (po_some (pe_op op_sub (pe_op op_add (pv 2) pe_int) (pv 3))) (po_some (pe_op op_add (pv 2) pe_int)))) (blkOk_by (N := ["records", "found", "number", "many", "own"]) (sc := defScope sClosedRows) (by decide +kernel)) (fun _ _ _ _ _ => (pg_name (i := 4) scClosedRows.nd rfl (Or.inl rfl))) (fun _ _ _ _ _ => pts_nil) (fun _ _ _ _ _ => (pe_slice (r := rSlA K) sl_tupA (pv 4) po_none (po_some (pe_un un_neg pe_int))))) pa_nil)) pa_nil))) pa_nil)))) pss_nil))))
      (pss_one (ps_ret (pv 1)))), ?_⟩
  have E1 := env_start (N := ["records", "found", "number", "many", "own"]) hl hd
  refine sg_newL E1 fun p σ2 H2 hp np e2 E2 => ?_
  refine sg_for (α := Nat) (enc := fun i => .int (i : Nat)) (xs := List.range rs.length) (js := [2]) (fun i => [.dat (rowD rs), .lst p (closedD rs i), .no, .no, .no]) (fun i x => [.dat (rowD rs), .lst p (closedD rs i), .dat (.int (x : Nat)), .no, .no]) E2
    (src_rng1 (ag_cons (eg_is (eg_lenXT (eg_var rfl)) (by rw [List.length_map])) ag_nil) (by omega)) (fun i x _ => bnd_name) ?_ ?_
  · intro i x B' σ3 H3 N hx hB E3 hN
    have hi : i < rs.length := by
      have := (List.getElem?_eq_some_iff.mp hx).1
      rwa [List.length_range] at this
    have ex : x = i := by
      rw [List.getElem?_range hi] at hx
      exact (Option.some.inj hx).symm
    subst ex
    have hcl := parts_le rs x
    refine sg_asg E3 (eg_call (ag_cons (eg_var rfl) (ag_cons (eg_var rfl) ag_nil)) ⟨rs, x, hi, hn, rfl, rfl⟩) fun σ4 H4 e4 E4 => ?_
    refine sl_if E4 (tg_T (eg_IB (eg_var rfl) eg_int)) (fun hb H5 e5 E5 => ?_) fun hb H5 e5 E5 => ?_
    · have hc : 0 < partsClosed rs x := by
        have := of_decide_eq_true hb
        omega
      have hd1 : closedD rs (x + 1) = closedD rs x ++ [.tuple [.int (x : Nat), .tuple ((lotAt rs x).map encS)]] := by
        unfold closedD
        rw [closing_yes hc, List.map_append]
        rfl
      refine sl_app (d := .tuple [.int (x : Nat), .tuple ((lotAt rs x).map encS)]) E5 rfl List.mem_cons_self (eg_tup (ag_cons (eg_var rfl) (ag_cons (eg_tupL (eg_lc (js := [4]) (α := Rec) (enc := enc) (xs := lotAt rs x) ?src (fun r => [.dat (rowD rs), .lst p (closedD rs x), .dat (.int (x : Nat)), .dat (.int (partsClosed rs x : Nat)), .dat (enc r)]) (fun r _ => bnd_name) encS ?small
        (fun r _ => eg_is (eg_slT (eg_var rfl) og_none (og_some (eg_U eg_int))) (enc_single r)))) ag_nil))) ?len (fun H6 E6 => ?_)
      case src =>
        have e : cutD (rs.map enc) (some ((x + 1 - partsClosed rs x : Nat) : Int)) (some ((x + 1 : Nat) : Int)) = (lotAt rs x).map enc := by
          rw [cut_map, cut_nat _ _ _ (by omega) (by omega)]
          unfold lotAt
          rw [show x + 1 - (x + 1 - partsClosed rs x) = partsClosed rs x by omega]
        rw [← e]
        exact src_tup (eg_slT (eg_var rfl) (og_some (eg_is (eg_II (eg_II (eg_var rfl) eg_int) (eg_var rfl)) (by congr 1; omega))) (og_some (eg_is (eg_II (eg_var rfl) eg_int) (by congr 1))))
      case small =>
        unfold lotAt
        rw [List.length_take]
        have := Nat.min_le_left (partsClosed rs x) (rs.drop (x + 1 - partsClosed rs x)).length
        omega
      case len =>
        unfold closedD
        rw [List.length_map]
        have := closing_len rs x
        omega
      · refine hN _ _ ?_
        rw [hd1]
        exact (E6.forget 2).forget 3
    · have hc : ¬ 0 < partsClosed rs x := fun h => by
        have := of_decide_eq_false hb
        omega
      have hd1 : closedD rs (x + 1) = closedD rs x := by
        unfold closedD
        rw [closing_no hc]
      refine hN _ _ ?_
      rw [hd1]
      exact (E5.forget 2).forget 3
  · intro σ3 H3 E3
    rw [List.length_range] at E3
    refine sl_retL E3 rfl fun vs h1 h2 => ?_
    obtain ⟨r1, r2⟩ := end_list E3 np h1 h2
    exact q _ _ r1 r2
end
end HR

set_option Elab.async false
set_option linter.all false
set_option maxRecDepth 100000
set_option maxHeartbeats 4000000
namespace HR
open PySem PySem.Spec PyProof.Rows L2 Evl
theorem some_same (d : PyData) : someD d = isSome d := by cases d <;> rfl
section
variable {P : Program} {w : World} {K : PySem.W.Frag} {mg : Str → Option Value} {base : Heap}
theorem scNumbersLast : FnScope ["records", "found", "number", "singles", "first", "far", "own", "key"] ["records"] (defScope sNumbersLast) := ⟨rfl, rfl, rfl, by decide +kernel, rfl, by decide +kernel, by decide +kernel⟩
def spNum (K : PySem.W.Frag) : Sp := fun vs H Q _ => ∃ (L : List Addr) (v : V) (rs : List Rec), (∀ a ∈ L, ∃ o, H a = some o) ∧ vs = [v] ∧ Dp K (er L H) v (rowD rs) ∧ rs.length ≤ 40 ∧
  ∀ p H' ws, H p = none → Ex H H' → H' p = some (.dK ws) → KvD K (er (p :: L) H') ws (numD rs) → Q (.ref p) H'
theorem ok_numbers_last (T : Top K mg) : Ok P w K mg base 4 "numbers_last" ["records"] (spNum K) := by
  have O_closed_rows : Ok P w K mg base 3 _ _ _ := ok_closed_rows T
  refine ok_def T 13 13 scNumbersLast (fun vs H Q E h => by obtain ⟨L, v, rs, _, rfl, _⟩ := h; rfl) (fun _ _ _ _ _ _ us hl => match us, hl with | [_], _ => rfl) (fun cdv A outer s H vs Q E hr h => ?_)
  obtain ⟨L, v, rs, hl, rfl, hd, hn, q⟩ := h
  refine ⟨_, pss_cons (ps_set (i := 1) scNumbersLast.nd rfl (.inl rfl) pe_dnewK)
      (pss_cons (ps_for PassesOwn.never rfl (pi_list (pe_cal O_closed_rows hr (pa_cons (pv 0) pa_nil))) (pg_tup rfl (pgs_cons (pg_name (i := 2) scNumbersLast.nd rfl (Or.inl rfl)) (pgs_cons (pg_name (i := 3) scNumbersLast.nd rfl (Or.inl rfl)) pgs_nil)))
      (pss_cons (ps_set (i := 4) scNumbersLast.nd rfl (.inl rfl) (pe_op op_sub (pe_op op_add (pv 2) pe_int) (pe_callB (r := rLenX K) call_lenX (by rfl) T.lenN (by decide +kernel) (pa_cons (pv 3) pa_nil))))
      (pss_one (ps_for PassesOwn.never rfl (pi_enumT (by rfl) T.enumerateN (pa_cons (pv 3) pa_nil)) (pg_tup rfl (pgs_cons (pg_name (i := 5) scNumbersLast.nd rfl (Or.inl rfl)) (pgs_cons (pg_name (i := 6) scNumbersLast.nd rfl (Or.inl rfl)) pgs_nil)))
      (pss_one (ps_dput (hu_of hr) (pv 1) (pe_ix (r := rIxT K) ix_tup (pv 6) pe_int (fun _ _ => rfl)) (pe_ifExp (pt_cmpR op_eq (pe_ix (r := rIxT K) ix_tup (pv 6) pe_int (fun _ _ => rfl)) pe_str (nomark _)) (pe_op op_add (pv 4) (pv 5)) pe_non) rfl))))))
      (pss_one (ps_ret (pe_dc (own := [("key", 7), ("number", 2)]) (g := (gTup K 2 (gCons (gName 7) (gCons (gName 2) gNil)))) rfl scNumbersLast.nd (pi_items (pe_lockA (pv 1))) (blkOk_by (N := ["records", "found", "number", "singles", "first", "far", "own", "key"]) (sc := defScope sNumbersLast) (by decide +kernel)) (fun _ _ _ _ _ => (pg_tup rfl (pgs_cons (pg_name (i := 7) scNumbersLast.nd rfl (Or.inl rfl)) (pgs_cons (pg_name (i := 2) scNumbersLast.nd rfl (Or.inl rfl)) pgs_nil)))) (fun _ _ _ _ _ => (pts_one (pt_cmp (pc_notN (pv 2))))) (fun _ _ _ _ _ => (pv 7)) (fun _ _ _ _ _ => (pv 2)))))), ?_⟩
  have E1 := env_start (N := ["records", "found", "number", "singles", "first", "far", "own", "key"]) (ds := [rowD rs]) (vs := [v]) hl (.cons hd .nil)
  refine sg_newD E1 fun p σ2 H2 hp np e2 E2 => ?_
  refine sg_for (α := Nat) (enc := fun i => .tuple [.int (i : Nat), .tuple ((lotAt rs i).map encS)]) (xs := closing rs rs.length) (js := [2, 3]) (fun k => [.dat (rowD rs), .dk p (dictBy fNum (flatOf rs ((closing rs rs.length).take k))), .no, .no, .no, .no, .no, .no])
    (fun k i => [.dat (rowD rs), .dk p (dictBy fNum (flatOf rs ((closing rs rs.length).take k))), .dat (.int (i : Nat)), .dat (.tuple ((lotAt rs i).map encS)), .no, .no, .no, .no]) E2
    (src_list (eg_call (ag_cons (eg_var rfl) ag_nil) ⟨rs, hn, rfl, rfl⟩)) (fun k i _ => bnd_two) ?_ ?_
  · intro k i B' σ3 H3 N hx hB E3 hN
    have mem : i ∈ closing rs rs.length := List.mem_of_getElem? hx
    have hk : k < (closing rs rs.length).length := (List.getElem?_eq_some_iff.mp hx).1
    obtain ⟨m1, m2⟩ := List.mem_filter.mp mem
    have hi : i < rs.length := List.mem_range.mp m1
    have hc : 0 < partsClosed rs i := of_decide_eq_true m2
    have hle := parts_le rs i
    have hlen := lot_len hi
    have hcl := closing_len rs rs.length
    refine sg_asg (d := .int ((i + 1 - partsClosed rs i : Nat) : Int)) E3 (eg_is (eg_II (eg_II (eg_var rfl) eg_int) (eg_lenXT (eg_var rfl))) (by rw [List.length_map, hlen]; congr 1; omega)) fun σ4 H4 e4 E4 => ?_
    refine sl_for (H0 := B') (M := [p]) (L := p :: L) (α := Rec × Nat) (enc := fun x => .tuple [.int (x.2 : Nat), encS x.1]) (xs := (lotAt rs i).zipIdx) (js := [5, 6])
      (fun j => [.dat (rowD rs), .dk p (dictBy fNum (flatOf rs ((closing rs rs.length).take k) ++ (lotEnts rs i).take j)), .dat (.int (i : Nat)), .dat (.tuple ((lotAt rs i).map encS)), .dat (.int ((i + 1 - partsClosed rs i : Nat) : Int)), .no, .no, .no])
      (fun j x => [.dat (rowD rs), .dk p (dictBy fNum (flatOf rs ((closing rs rs.length).take k) ++ (lotEnts rs i).take j)), .dat (.int (i : Nat)), .dat (.tuple ((lotAt rs i).map encS)), .dat (.int ((i + 1 - partsClosed rs i : Nat) : Int)), .dat (.int (x.2 : Nat)), .dat (encS x.1), .no]) ?st ?src (fun j x _ => bnd_two) ?_ ?_
    case st =>
      rw [List.take_zero, List.append_nil]
      exact E4
    case src =>
      have := src_enumT (K := K) (ag_cons (eg_var (i := 3) (d := .tuple ((lotAt rs i).map encS)) (Γ := [.dat (rowD rs), .dk p (dictBy fNum (flatOf rs ((closing rs rs.length).take k) ++ (lotEnts rs i).take 0)), .dat (.int (i : Nat)), .dat (.tuple ((lotAt rs i).map encS)), .dat (.int ((i + 1 - partsClosed rs i : Nat) : Int)), .no, .no, .no]) rfl) ag_nil)
      rw [List.zipIdx_map, List.map_map] at this
      exact this
    · intro j x B2 σ5 H5 N2 hx2 hB2 E5 hN2
      obtain ⟨r, t⟩ := x
      have hj : j < (lotAt rs i).length := by
        have := (List.getElem?_eq_some_iff.mp hx2).1
        rwa [List.length_zipIdx] at this
      rw [List.getElem?_zipIdx, List.getElem?_eq_getElem hj] at hx2
      have ex := Option.some.inj hx2
      rw [Prod.mk.injEq, Nat.zero_add] at ex
      obtain ⟨er', rfl⟩ := ex
      have hb : r.isBlank = false := lot_good hi hc r (er' ▸ List.getElem_mem hj)
      have ent : (lotEnts rs i).take (j + 1) = (lotEnts rs i).take j ++ [(i + 1 - partsClosed rs i + j, r)] := by
        rw [List.take_add_one]
        congr 1
        unfold lotEnts
        rw [List.getElem?_map, List.getElem?_zipIdx, List.getElem?_eq_getElem hj, er', hlen, Nat.zero_add]
        rfl
      refine sl_put (d := fNum (i + 1 - partsClosed rs i + j, r)) (x := r.key) E5 rfl List.mem_cons_self ?_ (eg_ixT (eg_var rfl) eg_int (ats_1 hb)) ?_ fun H6 E6 => ?_
      · refine eg_if (tg_T (eg_eqS (eg_ixT (eg_var rfl) eg_int (ats_0 hb)) eg_str)) (fun h => ?_) fun h => ?_
        · rw [tag_put hb] at h
          refine eg_is (eg_II (eg_var rfl) (eg_var rfl)) ?_
          unfold fNum
          rw [if_pos h]
          congr 1
        · rw [tag_put hb] at h
          refine eg_is eg_non ?_
          unfold fNum
          rw [if_neg (by rw [h]; exact Bool.false_ne_true)]
      · have h1 := dictBy_len fNum (flatOf rs ((closing rs rs.length).take k) ++ (lotEnts rs i).take j)
        have h2 := flat_len hn ((closing rs rs.length).take k) (by rw [List.length_take]; omega) (fun y hy => List.mem_range.mp (List.mem_filter.mp (List.mem_of_mem_take hy)).1)
        have h3 : ((lotEnts rs i).take j).length ≤ 40 := by
          unfold lotEnts
          rw [List.length_take, List.length_map, List.length_zipIdx, hlen]
          omega
        rw [List.length_append] at h1
        rw [List.length_take] at h2
        omega
      · refine hN2 _ _ ?_
        rw [ent, ← List.append_assoc, dictBy_snoc]
        exact (E6.forget 5).forget 6
    · intro σ5 H5 E5
      refine hN _ _ ?_
      have e : (closing rs rs.length).take (k + 1) = (closing rs rs.length).take k ++ [i] := by
        rw [List.take_add_one, hx]
        rfl
      have e2 : flatOf rs ((closing rs rs.length).take (k + 1)) = flatOf rs ((closing rs rs.length).take k) ++ lotEnts rs i := by
        rw [e]
        unfold flatOf
        rw [List.flatMap_append, List.flatMap_cons, List.flatMap_nil, List.append_nil]
      have et : (lotEnts rs i).take (lotAt rs i).length = lotEnts rs i := List.take_of_length_le (by unfold lotEnts; rw [List.length_map, List.length_zipIdx]; exact Nat.le_refl _)
      rw [List.length_zipIdx, et, ← e2] at E5
      exact ((E5.forget 2).forget 3).forget 4
  · intro σ3 H3 E3
    rw [List.take_length] at E3
    have hnd := dictBy_nodup fNum (flat rs)
    have hin := dictBy_inr fNum (flat rs)
    have hsz : (dictBy fNum (flat rs)).length ≤ 50000 := by
      have h1 := dictBy_len fNum (flat rs)
      have h0 := closing_len rs rs.length
      have h2 : (flat rs).length ≤ _ := flat_len hn (closing rs rs.length) (by omega) (fun y hy => List.mem_range.mp (List.mem_filter.mp hy).1)
      omega
    refine dc_items (js := [7, 2]) (kvs := dictBy fNum (flat rs)) E3 rfl List.mem_cons_self rfl (fun x => [.dat (rowD rs), .fz p (dictBy fNum (flat rs)), .dat x.2, .no, .no, .no, .no, .dat (keyD x.1)]) (fun x _ => bnd_two) (fun x => isSome x.2) (fun x => keyS x.1) (fun x => x.2) hsz
      (fun x _ => tg_is (tg_B (eg_notN (eg_var rfl))) (some_same x.2)) (fun x hx _ => ?_) (fun x _ _ => eg_var rfl) (by simp) fun D H' ws hD E4 hDd hkv => ?_
    · obtain ⟨z, hz⟩ := hin x hx
      rw [show PyData.str (keyS x.1) = keyD x.1 by rw [hz]; rfl]
      exact eg_var rfl
    · have e : ((dictBy fNum (flat rs)).filter fun x => isSome x.2).foldl (fun kv x => putP kv (.inr (keyS x.1)) x.2) [] = numD rs := by
        refine put_again _ [] (fun x hx => hin x (List.mem_filter.mp hx).1) ?_
        rw [List.nil_append]
        exact (List.filter_sublist.map _).nodup hnd
      rw [e] at hkv
      have b := E3.base
      refine q D H' ws (fresh_back (b.trans (er_ex _ _)) hD) (E4.base.trans (er_ex _ _)) hDd (kvd_mono (er_less fun a ha => ?_) hkv)
      rcases List.mem_cons.mp ha with z | z
      · exact List.mem_cons.mpr (.inl z)
      · exact List.mem_cons_of_mem _ (List.mem_cons_of_mem _ z)
end
end HR

set_option Elab.async false
set_option linter.all false
set_option maxRecDepth 100000
set_option maxHeartbeats 4000000
namespace HR
open PySem PySem.Spec L2
/-! ### strictly sorted data -/
def ltD (x y : PyData) : Bool := (PyProof.Rows.listOrd PyProof.Rows.itemOrd).blt (PySem.W.keyToks x) (PySem.W.keyToks y)
theorem ltD_irrefl (x : PyData) : ltD x x = false := (PyProof.Rows.listOrd PyProof.Rows.itemOrd).irrefl _
theorem ltD_trans {x y z : PyData} (h1 : ltD x y = true) (h2 : ltD y z = true) : ltD x z = true := (PyProof.Rows.listOrd PyProof.Rows.itemOrd).trans _ _ _ h1 h2
theorem ltD_total {x y : PyData} (h1 : ltD x y = false) (h2 : ltD y x = false) : PySem.W.keyToks x = PySem.W.keyToks y := (PyProof.Rows.listOrd PyProof.Rows.itemOrd).total _ _ h1 h2
theorem strict_ext : ∀ {a b : List PyData}, a.Pairwise (fun x y => ltD x y = true) → b.Pairwise (fun x y => ltD x y = true) → (∀ x, x ∈ a ↔ x ∈ b) → a = b
  | [], [], _, _, _ => rfl
  | [], y :: t, _, _, h => by have := (h y).mpr List.mem_cons_self; cases this
  | x :: r, [], _, _, h => by have := (h x).mp List.mem_cons_self; cases this
  | x :: r, y :: t, ha, hb, h => by
    obtain ⟨a1, a2⟩ := List.pairwise_cons.mp ha
    obtain ⟨b1, b2⟩ := List.pairwise_cons.mp hb
    have e : x = y := by
      rcases List.mem_cons.mp ((h x).mp List.mem_cons_self) with q | q
      · exact q
      · rcases List.mem_cons.mp ((h y).mpr List.mem_cons_self) with p | p
        · exact p.symm
        · have := ltD_trans (a1 y p) (b1 x q)
          rw [ltD_irrefl] at this
          cases this
    subst e
    congr 1
    refine strict_ext a2 b2 fun z => ⟨fun m => ?_, fun m => ?_⟩
    · rcases List.mem_cons.mp ((h z).mp (List.mem_cons_of_mem _ m)) with q | q
      · have := a1 z m
        rw [q, ltD_irrefl] at this
        cases this
      · exact q
    · rcases List.mem_cons.mp ((h z).mpr (List.mem_cons_of_mem _ m)) with q | q
      · have := b1 z m
        rw [q, ltD_irrefl] at this
        cases this
      · exact q
abbrev sortD' (ds : List PyData) : List PyData := ds.mergeSort (PySem.W.dataLe false fun d => d)
theorem sortD_mem {ds : List PyData} {x : PyData} : x ∈ sortD' ds ↔ x ∈ ds := List.mem_mergeSort
theorem dataLe_ltD (x y : PyData) : PySem.W.dataLe false (fun d => d) x y = !ltD y x := rfl
theorem sortD_strict {ds : List PyData} (nd : ds.Nodup) (inj : ∀ x ∈ ds, ∀ y ∈ ds, PySem.W.keyToks x = PySem.W.keyToks y → x = y) : (sortD' ds).Pairwise fun x y => ltD x y = true := by
  have tot := PySem.W.sortLe_total (PyProof.Rows.listOrd PyProof.Rows.itemOrd) false fun b : PyData => PySem.W.keyToks b
  have p1 : (sortD' ds).Pairwise fun x y => PySem.W.dataLe false (fun d => d) x y = true := List.pairwise_mergeSort (fun a b c => tot.trans a b c) (fun a b => by rw [Bool.or_eq_true]; exact tot.total a b) ds
  have p2 : (sortD' ds).Nodup := (List.mergeSort_perm ds _).nodup_iff.mpr nd
  refine (p1.and p2).imp_of_mem fun {x y} hx hy h => ?_
  obtain ⟨h1, h2⟩ := h
  rw [dataLe_ltD, Bool.not_eq_true'] at h1
  by_cases q : ltD x y = true
  · exact q
  · exact absurd (inj x (sortD_mem.mp hx) y (sortD_mem.mp hy) (ltD_total (Bool.not_eq_true _ ▸ q) h1)) h2
/-! ### pairs -/
def pIS (n : Nat) (k : Str) : PyData := .tuple [.int (n : Nat), .str k]
def pSS (k w : Str) : PyData := .tuple [.str k, .str w]
theorem toks_IS (n : Nat) (k : Str) : PySem.W.keyToks (pIS n k) = [.inl 1, .inl (n : Int), .inl 1, .inr k.cps.toList, .inl 0] := rfl
theorem toks_SS (k w : Str) : PySem.W.keyToks (pSS k w) = [.inl 1, .inr k.cps.toList, .inl 1, .inr w.cps.toList, .inl 0] := rfl
theorem pIS_inj {n m : Nat} {k j : Str} (h : PySem.W.keyToks (pIS n k) = PySem.W.keyToks (pIS m j)) : n = m ∧ k = j := by
  rw [toks_IS, toks_IS] at h
  injection h with _ h
  injection h with h1 h
  injection h with _ h
  injection h with h2 h
  refine ⟨?_, PySem.W.str_of_cps (Sum.inr.inj h2)⟩
  have := Sum.inl.inj h1
  omega
theorem pSS_inj {k w j v : Str} (h : PySem.W.keyToks (pSS k w) = PySem.W.keyToks (pSS j v)) : k = j ∧ w = v := by
  rw [toks_SS, toks_SS] at h
  injection h with _ h
  injection h with h1 h
  injection h with _ h
  injection h with h2 h
  exact ⟨PySem.W.str_of_cps (Sum.inr.inj h1), PySem.W.str_of_cps (Sum.inr.inj h2)⟩
theorem pIS_eq {n m : Nat} {k j : Str} (h : pIS n k = pIS m j) : n = m ∧ k = j := pIS_inj (congrArg _ h)
theorem pSS_eq {k w j v : Str} (h : pSS k w = pSS j v) : k = j ∧ w = v := pSS_inj (congrArg _ h)
theorem pIS_lt {n m : Nat} (k j : Str) (h : n < m) : ltD (pIS n k) (pIS m j) = true := by
  unfold ltD
  rw [toks_IS, toks_IS]
  show PyProof.Rows.lexLt PyProof.Rows.itemOrd _ _ = true
  rw [PyProof.Rows.lex_self, PyProof.Rows.lex_diff (fun q => by have := Sum.inl.inj q; omega)]
  show decide ((n : Int) < m) = true
  exact decide_eq_true (by omega)
theorem pIS_lt_iff {n m : Nat} {k j : Str} (h : ltD (pIS n k) (pIS m j) = true) (hn : n ≠ m) : n < m := by
  rcases Nat.lt_or_gt_of_ne hn with q | q
  · exact q
  · have := ltD_trans h (pIS_lt j k q)
    rw [ltD_irrefl] at this
    cases this
/-! ### the last thing that is said of each key -/
theorem mem_putP {α : Type} {kvs : List (L2.Key × α)} {k k0 : L2.Key} {v v0 : α} : (k, v) ∈ putP kvs k0 v0 ↔ (k = k0 ∧ v = v0) ∨ (k ≠ k0 ∧ (k, v) ∈ kvs) := by
  unfold putP
  by_cases h : k0 ∈ kvs.map (·.1)
  · rw [if_pos (any_key.mpr h), List.mem_map]
    constructor
    · rintro ⟨⟨k1, v1⟩, hx, e⟩
      by_cases q : k1 = k0
      · rw [if_pos q] at e
        cases e
        exact .inl ⟨q, rfl⟩
      · rw [if_neg q] at e
        cases e
        exact .inr ⟨q, hx⟩
    · rintro (⟨rfl, rfl⟩ | ⟨q, hx⟩)
      · obtain ⟨x, hx, e⟩ := List.mem_map.mp h
        exact ⟨x, hx, by rw [if_pos e, e]⟩
      · exact ⟨_, hx, by rw [if_neg q]⟩
  · rw [if_neg fun z => h (any_key.mp z), List.mem_append, List.mem_singleton]
    constructor
    · rintro (hx | e)
      · refine .inr ⟨fun q => h ?_, hx⟩
        rw [← q]
        exact List.mem_map.mpr ⟨_, hx, rfl⟩
      · cases e
        exact .inl ⟨rfl, rfl⟩
    · rintro (⟨rfl, rfl⟩ | ⟨q, hx⟩)
      · exact .inr rfl
      · exact .inl hx
def ents (fl : List (Nat × Rec)) : List (L2.Key × (Nat × Rec)) := dictBy (fun x => x) fl
theorem putP_map {α β : Type} (f : α → β) (kvs : List (L2.Key × α)) (k : L2.Key) (v : α) : (putP kvs k v).map (fun x => (x.1, f x.2)) = putP (kvs.map fun x => (x.1, f x.2)) k (f v) := by
  unfold putP
  have e : (kvs.map fun x => (x.1, f x.2)).any (fun kv => decide (kv.1 = k)) = kvs.any fun kv => decide (kv.1 = k) := by
    rw [List.any_map]
    rfl
  rw [e]
  split
  · rw [List.map_map, List.map_map]
    refine List.map_congr_left fun x _ => ?_
    show (fun x : L2.Key × α => (x.1, f x.2)) (if x.1 = k then (x.1, v) else x) = if x.1 = k then (x.1, f v) else (x.1, f x.2)
    split <;> rfl
  · rw [List.map_append]
    rfl
theorem dictBy_ents {α : Type} (f : Nat × Rec → α) (fl : List (Nat × Rec)) : dictBy f fl = (ents fl).map fun x => (x.1, f x.2) := by
  have g : ∀ (l : List (Nat × Rec)) (acc : List (L2.Key × (Nat × Rec))), l.foldl (fun kv x => putP kv (.inr x.2.key) (f x)) (acc.map fun x => (x.1, f x.2)) = (l.foldl (fun kv x => putP kv (.inr x.2.key) x) acc).map fun x => (x.1, f x.2) := by
    intro l
    induction l with
    | nil => intro acc; rfl
    | cons x l ih =>
      intro acc
      rw [List.foldl_cons, List.foldl_cons, ← putP_map f]
      exact ih _
  exact g fl []
def IsLast (fl : List (Nat × Rec)) (x : Nat × Rec) : Prop := ∃ a b, fl = a ++ x :: b ∧ ∀ y ∈ b, y.2.key ≠ x.2.key
theorem isLast_snoc {fl : List (Nat × Rec)} {x y : Nat × Rec} : IsLast (fl ++ [y]) x ↔ x = y ∨ (x.2.key ≠ y.2.key ∧ IsLast fl x) := by
  constructor
  · rintro ⟨a, b, e, h⟩
    rcases List.eq_nil_or_concat b with rfl | ⟨b', z, rfl⟩
    · have := List.append_inj_right' e rfl
      cases this
      exact .inl rfl
    · rw [List.concat_eq_append] at e h
      rw [show a ++ x :: (b' ++ [z]) = (a ++ x :: b') ++ [z] by simp] at e
      have e1 := List.append_inj_left' e rfl
      have e2 := List.append_inj_right' e rfl
      cases e2
      refine .inr ⟨fun q => h y (by simp) q.symm, a, b', e1, fun z hz => h z (by simp [hz])⟩
  · rintro (rfl | ⟨q, a, b, rfl, h⟩)
    · exact ⟨fl, [], rfl, fun y hy => by cases hy⟩
    · refine ⟨a, b ++ [y], by simp, fun z hz => ?_⟩
      rcases List.mem_append.mp hz with m | m
      · exact h z m
      · rw [List.mem_singleton.mp m]
        exact q.symm
theorem mem_ents : ∀ {n : Nat} {fl : List (Nat × Rec)}, fl.length = n → ∀ {k : L2.Key} {x : Nat × Rec}, (k, x) ∈ ents fl ↔ k = .inr x.2.key ∧ IsLast fl x
  | 0, fl, h, k, x => by
    cases fl with
    | nil =>
      constructor
      · intro m
        cases m
      · rintro ⟨_, a, b, e, _⟩
        have := congrArg List.length e
        rw [List.length_append, List.length_cons, List.length_nil] at this
        omega
    | cons y l => cases h
  | n + 1, fl, h, k, x => by
    rcases List.eq_nil_or_concat fl with rfl | ⟨l, y, rfl⟩
    · cases h
    · rw [List.concat_eq_append] at h ⊢
      have hl : l.length = n := by
        rw [List.length_append] at h
        simpa using h
      unfold ents
      rw [dictBy_snoc, mem_putP, isLast_snoc]
      have ih := mem_ents hl (k := k) (x := x)
      unfold ents at ih
      rw [ih]
      constructor
      · rintro (⟨rfl, rfl⟩ | ⟨q, rfl, h⟩)
        · exact ⟨rfl, .inl rfl⟩
        · exact ⟨rfl, .inr ⟨fun z => q (congrArg _ z), h⟩⟩
      · rintro ⟨rfl, rfl | ⟨q, h⟩⟩
        · exact .inl ⟨rfl, rfl⟩
        · exact .inr ⟨fun z => q (Sum.inr.inj z), rfl, h⟩
/-! ### what is closed -/
def covered (rs : List Rec) (j : Nat) : Prop := ∃ i, i < rs.length ∧ 0 < partsClosed rs i ∧ i + 1 - partsClosed rs i ≤ j ∧ j ≤ i
theorem mem_lotEnts {rs : List Rec} {i : Nat} (hi : i < rs.length) {x : Nat × Rec} : x ∈ lotEnts rs i ↔ i + 1 - partsClosed rs i ≤ x.1 ∧ x.1 ≤ i ∧ x.2 = recAt rs x.1 := by
  have hp := parts_le rs i
  have hl := lot_len hi
  unfold lotEnts
  rw [List.mem_map]
  constructor
  · rintro ⟨⟨r, t⟩, hm, rfl⟩
    have ht := List.mem_zipIdx' hm
    have h0 := List.mem_zipIdx_iff_getElem?.mp hm
    have hlt : t < partsClosed rs i := by
      have := ht.1
      omega
    rw [lot_at hi hlt] at h0
    rw [hl]
    exact ⟨by omega, by show i + 1 - partsClosed rs i + t ≤ i; omega, (Option.some.inj h0).symm⟩
  · rintro ⟨h1, h2, h3⟩
    refine ⟨(x.2, x.1 - (i + 1 - partsClosed rs i)), List.mem_zipIdx_iff_getElem?.mpr ?_, ?_⟩
    · rw [lot_at hi (by show x.1 - (i + 1 - partsClosed rs i) < partsClosed rs i; omega), h3]
      congr 2
      show i + 1 - partsClosed rs i + (x.1 - (i + 1 - partsClosed rs i)) = x.1
      omega
    · rw [hl]
      refine Prod.ext ?_ rfl
      show i + 1 - partsClosed rs i + (x.1 - (i + 1 - partsClosed rs i)) = x.1
      omega
theorem mem_flat {rs : List Rec} {x : Nat × Rec} : x ∈ flat rs ↔ covered rs x.1 ∧ x.2 = recAt rs x.1 := by
  unfold flat flatOf
  rw [List.mem_flatMap]
  constructor
  · rintro ⟨i, hi, hx⟩
    obtain ⟨m1, m2⟩ := List.mem_filter.mp hi
    have hlt := List.mem_range.mp m1
    obtain ⟨h1, h2, h3⟩ := (mem_lotEnts hlt).mp hx
    exact ⟨⟨i, hlt, of_decide_eq_true m2, h1, h2⟩, h3⟩
  · rintro ⟨⟨i, hlt, hc, h1, h2⟩, h3⟩
    exact ⟨i, List.mem_filter.mpr ⟨List.mem_range.mpr hlt, decide_eq_true hc⟩, (mem_lotEnts hlt).mpr ⟨h1, h2, h3⟩⟩
theorem covered_lt {rs : List Rec} {j : Nat} (h : covered rs j) : j < rs.length := by
  obtain ⟨i, h1, _, _, h2⟩ := h
  omega
theorem covered_good {rs : List Rec} {j : Nat} (h : covered rs j) : (recAt rs j).isBlank = false := by
  obtain ⟨i, h1, hc, h2, h3⟩ := h
  have hp := parts_le rs i
  have := lot_at h1 (t := j - (i + 1 - partsClosed rs i)) (by omega)
  rw [show i + 1 - partsClosed rs i + (j - (i + 1 - partsClosed rs i)) = j by omega] at this
  exact lot_good h1 hc _ (List.mem_of_getElem? this)
/-- lots do not overlap -/
theorem lots_apart {rs : List Rec} {i i' : Nat} (h : 0 < partsClosed rs i) (h' : 0 < partsClosed rs i') (hl : i < i') : i < i' + 1 - partsClosed rs i' := by
  obtain ⟨_, z, _, _⟩ := closes_iff h
  obtain ⟨_, _, e, ok⟩ := closes_iff h'
  rcases Nat.lt_or_ge i (i' + 1 - partsClosed rs i') with q | q
  · exact q
  · have hm := Nat.min_le_left (recAt rs i').place i'
    have := (partOk_iff (by omega)).mp (ok (i' - i - 1) (by omega))
    rw [show i' - (1 + (i' - i - 1)) = i by omega] at this
    omega
theorem flat_up (rs : List Rec) : (flat rs).Pairwise fun x y => x.1 < y.1 := by
  unfold flat flatOf
  rw [List.pairwise_flatMap]
  constructor
  · intro i hi
    unfold lotEnts
    refine List.Pairwise.map _ (R := fun x y : Rec × Nat => x.2 < y.2) (fun x y h => by show _ + x.2 < _ + y.2; omega) ?_
    rw [List.pairwise_iff_getElem]
    intro a b ha hb hab
    rw [List.getElem_zipIdx, List.getElem_zipIdx]
    show 0 + a < 0 + b
    omega
  · refine List.Pairwise.imp_of_mem (R := fun a b : Nat => a < b) (fun {a b} ha hb hab x hx y hy => ?_) (List.Pairwise.filter _ List.pairwise_lt_range)
    obtain ⟨a1, a2⟩ := List.mem_filter.mp ha
    obtain ⟨b1, b2⟩ := List.mem_filter.mp hb
    obtain ⟨_, hx2, _⟩ := (mem_lotEnts (List.mem_range.mp a1)).mp hx
    obtain ⟨hy1, _, _⟩ := (mem_lotEnts (List.mem_range.mp b1)).mp hy
    have := lots_apart (of_decide_eq_true a2) (of_decide_eq_true b2) hab
    omega
/-- the place holds the last thing that is said of its key -/
def lastAt (rs : List Rec) (j : Nat) : Prop := covered rs j ∧ ∀ j', j < j' → covered rs j' → (recAt rs j').key ≠ (recAt rs j).key
theorem isLast_flat {rs : List Rec} {x : Nat × Rec} : IsLast (flat rs) x ↔ lastAt rs x.1 ∧ x.2 = recAt rs x.1 := by
  have up := flat_up rs
  constructor
  · rintro ⟨a, b, e, h⟩
    have hx : x ∈ flat rs := by rw [e]; simp
    obtain ⟨h1, h2⟩ := mem_flat.mp hx
    refine ⟨⟨h1, fun j' hj hc hk => ?_⟩, h2⟩
    have hm : (j', recAt rs j') ∈ flat rs := mem_flat.mpr ⟨hc, rfl⟩
    rw [e] at hm up
    rw [List.pairwise_append, List.pairwise_cons] at up
    rcases List.mem_append.mp hm with m | m
    · have := up.2.2 _ m x List.mem_cons_self
      dsimp only at this
      omega
    · rcases List.mem_cons.mp m with m | m
      · rw [← m] at hj
        dsimp only at hj
        omega
      · exact h _ m (by rw [h2]; exact hk)
  · rintro ⟨⟨h1, h3⟩, h2⟩
    obtain ⟨a, b, e⟩ := List.append_of_mem (mem_flat.mpr ⟨h1, h2⟩)
    refine ⟨a, b, e, fun y hy => ?_⟩
    have hm : y ∈ flat rs := by rw [e]; simp [hy]
    obtain ⟨c1, c2⟩ := mem_flat.mp hm
    rw [e, List.pairwise_append, List.pairwise_cons] at up
    rw [c2, h2]
    exact h3 _ (up.2.1.1 y hy) c1
/-! ### last words and table -/
def puts (rs : List Rec) : List (L2.Key × (Nat × Rec)) := (ents (flat rs)).filter fun x => x.2.2.isPut
def lastsL (rs : List Rec) : List PyData := (puts rs).map fun x => pIS x.2.1 x.2.2.key
def tableL (rs : List Rec) : List PyData := (puts rs).map fun x => pSS x.2.2.key x.2.2.word
def lastsD (rs : List Rec) : List PyData := sortD' (lastsL rs)
def tableD (rs : List Rec) : List PyData := sortD' (tableL rs)
def lastPut (rs : List Rec) (j : Nat) : Prop := lastAt rs j ∧ (recAt rs j).isPut = true
theorem mem_puts {rs : List Rec} {k : L2.Key} {x : Nat × Rec} : (k, x) ∈ puts rs ↔ k = .inr x.2.key ∧ lastPut rs x.1 ∧ x.2 = recAt rs x.1 := by
  unfold puts
  rw [List.mem_filter, mem_ents rfl, isLast_flat]
  constructor
  · rintro ⟨⟨a, b, c⟩, d⟩
    exact ⟨a, ⟨b, by rw [← c]; exact d⟩, c⟩
  · rintro ⟨a, ⟨b, d⟩, c⟩
    exact ⟨⟨a, b, c⟩, by show x.2.isPut = true; rw [c]; exact d⟩
theorem mem_lastsL {rs : List Rec} {d : PyData} : d ∈ lastsL rs ↔ ∃ j, lastPut rs j ∧ d = pIS j (recAt rs j).key := by
  unfold lastsL
  rw [List.mem_map]
  constructor
  · rintro ⟨⟨k, x⟩, h, rfl⟩
    obtain ⟨_, h2, h3⟩ := mem_puts.mp h
    exact ⟨x.1, h2, by show pIS x.1 x.2.key = _; rw [h3]⟩
  · rintro ⟨j, h, rfl⟩
    exact ⟨(.inr (recAt rs j).key, (j, recAt rs j)), mem_puts.mpr ⟨rfl, h, rfl⟩, rfl⟩
theorem mem_tableL {rs : List Rec} {d : PyData} : d ∈ tableL rs ↔ ∃ j, lastPut rs j ∧ d = pSS (recAt rs j).key (recAt rs j).word := by
  unfold tableL
  rw [List.mem_map]
  constructor
  · rintro ⟨⟨k, x⟩, h, rfl⟩
    obtain ⟨_, h2, h3⟩ := mem_puts.mp h
    exact ⟨x.1, h2, by show pSS x.2.key x.2.word = _; rw [h3]⟩
  · rintro ⟨j, h, rfl⟩
    exact ⟨(.inr (recAt rs j).key, (j, recAt rs j)), mem_puts.mpr ⟨rfl, h, rfl⟩, rfl⟩
theorem puts_nodup (rs : List Rec) : ((puts rs).map fun x => x.2.2.key).Nodup := by
  have h : ((puts rs).map (·.1)).Nodup := (List.filter_sublist.map _).nodup (dictBy_nodup _ _)
  have e : (puts rs).map (·.1) = ((puts rs).map fun x => x.2.2.key).map Sum.inr := by
    rw [List.map_map]
    refine List.map_congr_left fun x hx => ?_
    exact (mem_puts.mp hx).1
  rw [e] at h
  exact List.Pairwise.of_map Sum.inr (fun a b q z => q (congrArg Sum.inr z)) h
theorem lastsL_nodup (rs : List Rec) : (lastsL rs).Nodup := by
  have h := puts_nodup rs
  unfold lastsL
  unfold List.Nodup at h ⊢
  rw [List.pairwise_map] at h ⊢
  exact h.imp fun q z => q (pIS_eq z).2
theorem tableL_nodup (rs : List Rec) : (tableL rs).Nodup := by
  have h := puts_nodup rs
  unfold tableL
  unfold List.Nodup at h ⊢
  rw [List.pairwise_map] at h ⊢
  exact h.imp fun q z => q (pSS_eq z).1
theorem lastsD_strict (rs : List Rec) : (lastsD rs).Pairwise fun x y => ltD x y = true := sortD_strict (lastsL_nodup rs) fun x hx y hy e => by
  obtain ⟨j, _, rfl⟩ := mem_lastsL.mp hx
  obtain ⟨j', _, rfl⟩ := mem_lastsL.mp hy
  obtain ⟨e1, e2⟩ := pIS_inj e
  rw [e1]
theorem SS_inj {ds : List PyData} (h : ∀ d ∈ ds, ∃ k w, d = pSS k w) : ∀ x ∈ ds, ∀ y ∈ ds, PySem.W.keyToks x = PySem.W.keyToks y → x = y := fun x hx y hy e => by
  obtain ⟨k, w, rfl⟩ := h x hx
  obtain ⟨k', w', rfl⟩ := h y hy
  obtain ⟨e1, e2⟩ := pSS_inj e
  rw [e1, e2]
theorem tableD_strict (rs : List Rec) : (tableD rs).Pairwise fun x y => ltD x y = true := sortD_strict (tableL_nodup rs) (SS_inj fun d hd => by
  obtain ⟨j, _, rfl⟩ := mem_tableL.mp hd
  exact ⟨_, _, rfl⟩)
theorem mem_lastsD {rs : List Rec} {d : PyData} : d ∈ lastsD rs ↔ ∃ j, lastPut rs j ∧ d = pIS j (recAt rs j).key := sortD_mem.trans mem_lastsL
theorem mem_tableD {rs : List Rec} {d : PyData} : d ∈ tableD rs ↔ ∃ j, lastPut rs j ∧ d = pSS (recAt rs j).key (recAt rs j).word := sortD_mem.trans mem_tableL
theorem up_len : ∀ (l : List Nat) (a b : Nat), l.Pairwise (fun x y => x < y) → (∀ x ∈ l, a ≤ x ∧ x < b) → l.length ≤ b - a
  | [], _, _, _, _ => Nat.zero_le _
  | x :: l, a, b, hp, hm => by
    obtain ⟨h1, h2⟩ := List.pairwise_cons.mp hp
    have hx := hm x List.mem_cons_self
    have := up_len l (x + 1) b h2 fun y hy => ⟨h1 y hy, (hm y (List.mem_cons_of_mem _ hy)).2⟩
    rw [List.length_cons]
    omega
theorem flat_short (rs : List Rec) : (flat rs).length ≤ rs.length := by
  have := up_len ((flat rs).map (·.1)) 0 rs.length (List.pairwise_map.mpr (flat_up rs)) fun x hx => by
    obtain ⟨y, hy, rfl⟩ := List.mem_map.mp hx
    exact ⟨Nat.zero_le _, covered_lt (mem_flat.mp hy).1⟩
  rw [List.length_map] at this
  omega
theorem puts_short (rs : List Rec) : (puts rs).length ≤ rs.length := by
  have h1 := flat_short rs
  have h2 := dictBy_len (fun x => x) (flat rs)
  have h3 := List.length_filter_le (fun x : L2.Key × (Nat × Rec) => x.2.2.isPut) (ents (flat rs))
  unfold puts
  unfold ents at h3 ⊢
  omega
theorem numD_eq (rs : List Rec) : numD rs = (puts rs).map fun x => (x.1, .int (x.2.1 : Nat)) := by
  unfold numD puts
  rw [dictBy_ents, List.filter_map]
  have e : ((fun x : L2.Key × PyData => isSome x.2) ∘ fun x : L2.Key × (Nat × Rec) => (x.1, fNum x.2)) = fun x => x.2.2.isPut := by
    funext x
    show isSome (fNum x.2) = _
    unfold fNum
    cases x.2.2.isPut <;> rfl
  rw [e]
  refine List.map_congr_left fun x hx => ?_
  have := (List.mem_filter.mp hx).2
  show (x.1, fNum x.2) = _
  unfold fNum
  rw [if_pos this]
theorem IS_sorts {ds : List PyData} (h : ∀ d ∈ ds, ∃ n k, d = pIS n k) : PySem.W.AllAlike ds ∧ PySem.W.Sortable ds ∧ ∀ d ∈ ds, d.depth ≤ 60 := by
  refine ⟨fun d hd d' hd' => ?_, .inl fun d hd => ?_, fun d hd => ?_⟩
  · obtain ⟨n, k, rfl⟩ := h d hd
    obtain ⟨n', k', rfl⟩ := h d' hd'
    rfl
  · obtain ⟨n, k, rfl⟩ := h d hd
    exact ⟨_, _, rfl⟩
  · obtain ⟨n, k, rfl⟩ := h d hd
    show PyData.depth (.tuple [.int _, .str _]) ≤ 60
    simp [PyData.depth, PyData.depthAll]
theorem SS_sorts {ds : List PyData} (h : ∀ d ∈ ds, ∃ n k, d = pSS n k) : PySem.W.AllAlike ds ∧ PySem.W.Sortable ds ∧ ∀ d ∈ ds, d.depth ≤ 60 := by
  refine ⟨fun d hd d' hd' => ?_, .inl fun d hd => ?_, fun d hd => ?_⟩
  · obtain ⟨n, k, rfl⟩ := h d hd
    obtain ⟨n', k', rfl⟩ := h d' hd'
    rfl
  · obtain ⟨n, k, rfl⟩ := h d hd
    exact ⟨_, _, rfl⟩
  · obtain ⟨n, k, rfl⟩ := h d hd
    show PyData.depth (.tuple [.str _, .str _]) ≤ 60
    simp [PyData.depth, PyData.depthAll]
theorem lastsL_sorts (rs : List Rec) : PySem.W.AllAlike (lastsL rs) ∧ PySem.W.Sortable (lastsL rs) ∧ ∀ d ∈ lastsL rs, d.depth ≤ 60 := IS_sorts fun d hd => by
  obtain ⟨j, _, rfl⟩ := mem_lastsL.mp hd
  exact ⟨_, _, rfl⟩
theorem tableL_sorts (rs : List Rec) : PySem.W.AllAlike (tableL rs) ∧ PySem.W.Sortable (tableL rs) ∧ ∀ d ∈ tableL rs, d.depth ≤ 60 := SS_sorts fun d hd => by
  obtain ⟨j, _, rfl⟩ := mem_tableL.mp hd
  exact ⟨_, _, rfl⟩
end HR

set_option Elab.async false
set_option linter.all false
set_option maxRecDepth 100000
set_option maxHeartbeats 4000000
namespace HR
open PySem PySem.Spec PyProof.Rows L2 Evl
section
variable {K : PySem.W.Frag} {Γ : Ctx} {te : TE}
/-- an expression that gives a new dict -/
def DG (K : PySem.W.Frag) (te : TE) (Γ : Ctx) (kvs : List (Key × PyData)) : Prop := ∀ (H0 : Hp) (M L : List Addr) (σ : L2.St) (H : Hp), Env K H0 M L σ H Γ → ∀ Q : VK,
  (∀ p H' ws, H p = none → Ex H H' → H' p = some (.dK ws) → KvD K (er (p :: L) H') ws kvs → Q (.ref p) H') → te σ H Q
/-- for .. in f(..).items() -/
theorem src_itemsN {kvs : List (Key × PyData)} (h : DG K te Γ kvs) : Src K (iItems (tLockA te)) Γ (kvs.map itemD) := ⟨fun H0 M L σ H E R q => h H0 M L σ H E _ fun p H1 ws np e1 hp hk => by
  have nL := E.fresh np
  refine ⟨p, _, rfl, hp, trivial, fun od => ⟨p, od, ws, rfl, upd_same, ?_⟩⟩
  have e2 : er (p :: L) (upd H1 p (.frz od (.dK ws))) = er (p :: L) H1 := er_upd List.mem_cons_self
  have hk2 : KvD K (er L (upd H1 p (.frz od (.dK ws)))) ws kvs := by
    rw [← e2] at hk
    exact kvd_mono (er_less fun a m => List.mem_cons_of_mem _ m) hk
  refine q (Iti p od ws) _ (fun H => H p = some (.frz od (.dK ws))) _ (Ex.mut e1 np) (by rw [List.length_map, ← kvd_len hk]; exact walk_items) (fun H' x => ?_) (fun L' i x H2 H3 hi => by
    rw [List.length_map] at hi
    exact items_y hk2 L' i x H2 H3 hi)
  exact (er_some (x _ _ (by rw [er_out nL]; exact upd_same))).2⟩
end
end HR

set_option Elab.async false
set_option linter.all false
set_option maxRecDepth 100000
set_option maxHeartbeats 4000000
namespace HR
open PySem PySem.Spec PyProof.Rows L2 Evl
theorem dg_num {K : PySem.W.Frag} {Γ : Ctx} {X : XK} {ta : TA} {rs : List Rec} (h : AG K ta Γ [rowD rs]) (hn : rs.length ≤ 40) : DG K (tCall (spNum K) [] X ta) Γ (numD rs) := fun H0 M L σ H E Q q => by
  refine h H0 M L σ H E _ fun vs H1 e1 h1 => ?_
  obtain ⟨v, rfl, hv⟩ := ag_1 h1
  refine ⟨L, v, rs, (E.mono e1).live, rfl, hv, hn, fun p H' ws np e2 hp hk => q p H' ws (fresh_back e1 np) (e1.trans e2) hp hk⟩
theorem src_is {K : PySem.W.Frag} {wi : TI} {Γ : Ctx} {its its' : List PyData} (h : Src K wi Γ its) (e : its = its') : Src K wi Γ its' := e ▸ h
/-- the item of a row at a number that it has -/
theorem puts_at {rs : List Rec} {x : Key × (Nat × Rec)} (h : x ∈ puts rs) : x.1 = .inr x.2.2.key ∧ x.2.1 < rs.length ∧ x.2.2 = recAt rs x.2.1 ∧ x.2.2.isPut = true := by
  obtain ⟨h1, h2, h3⟩ := mem_puts.mp h
  exact ⟨h1, covered_lt h2.1.1, h3, (List.mem_filter.mp h).2⟩
theorem at_word {r : Rec} (h : r.isPut = true) : L2.atI (encL r) 2 = some (.str r.word) := by
  cases r with
  | blank => cases h
  | put k w p l => rfl
  | drop k p l => cases h
section
variable {P : Program} {w : World} {K : PySem.W.Frag} {mg : Str → Option Value} {base : Heap}
theorem scLastsIn : FnScope ["records", "key", "number"] ["records"] (defScope sLastsIn) := ⟨rfl, rfl, rfl, by decide +kernel, rfl, by decide +kernel, by decide +kernel⟩
def PLasts (ds : List PyData) (d : PyData) : Prop := ∃ (rs : List Rec), rs.length ≤ 40 ∧ ds = [rowD rs] ∧ d = .tuple (lastsD rs)
theorem ok_lasts_in (T : Top K mg) : Ok P w K mg base 5 "lasts_in" ["records"] (spD K PLasts) := by
  have O_numbers_last : Ok P w K mg base 4 _ _ _ := ok_numbers_last T
  refine ok_pure T 14 scLastsIn (fun ds d h => by obtain ⟨rs, _, rfl, _⟩ := h; rfl) (fun _ _ _ _ _ _ us hl => match us, hl with | [_], _ => rfl) (fun cdv A outer s H E hr => ⟨_, pss_one (ps_ret (pe_callTy (r := rTupS K) call_tupS (by rfl) T.tupleN (by decide +kernel) (pa_cons (pe_callB (r := rSortD K) (cr_sortD hr.units) (by rfl) T.sortedN (by decide +kernel) (pa_cons (pe_lc (own := [("key", 1), ("number", 2)]) (g := (gTup K 2 (gCons (gName 1) (gCons (gName 2) gNil)))) rfl scLastsIn.nd (pi_items (pe_lockA (pe_cal O_numbers_last hr (pa_cons (pv 0) pa_nil)))) (blkOk_by (N := ["records", "key", "number"]) (sc := defScope sLastsIn) (by decide +kernel)) (fun _ _ _ _ _ => (pg_tup rfl (pgs_cons (pg_name (i := 1) scLastsIn.nd rfl (Or.inl rfl)) (pgs_cons (pg_name (i := 2) scLastsIn.nd rfl (Or.inl rfl)) pgs_nil)))) (fun _ _ _ _ _ => pts_nil) (fun _ _ _ _ _ => (pe_tup (pa_cons (pv 2) (pa_cons (pv 1) pa_nil))))) pa_nil)) pa_nil))), fun ds d h => ?_⟩)
  obtain ⟨rs, hn, rfl, rfl⟩ := h
  obtain ⟨s1, s2, s3⟩ := lastsL_sorts rs
  refine bg_ret (eg_tupL (eg_sort ?_ s1 s2 s3))
  refine eg_lc (js := [1, 2]) (α := Key × (Nat × Rec)) (enc := fun x => itemD (x.1, .int (x.2.1 : Nat))) (xs := puts rs) ?src (fun x => [.dat (rowD rs), .dat (keyD x.1), .dat (.int (x.2.1 : Nat))]) (fun x _ => bnd_two) _ ?len (fun x hx => ?_)
  case src =>
    exact src_is (src_itemsN (dg_num (ag_cons (eg_var rfl) ag_nil) hn)) (by rw [numD_eq, List.map_map]; rfl)
  case len =>
    have := puts_short rs
    omega
  · obtain ⟨h1, h2, h3, h4⟩ := puts_at hx
    refine eg_tup (ag_cons (eg_var rfl) (ag_cons (eg_is (eg_var rfl) ?_) ag_nil))
    rw [h1]
    rfl
theorem scTableIn : FnScope ["records", "key", "number"] ["records"] (defScope sTableIn) := ⟨rfl, rfl, rfl, by decide +kernel, rfl, by decide +kernel, by decide +kernel⟩
def PTable (ds : List PyData) (d : PyData) : Prop := ∃ (rs : List Rec), rs.length ≤ 40 ∧ ds = [rowD rs] ∧ d = .tuple (tableD rs)
theorem ok_table_in (T : Top K mg) : Ok P w K mg base 5 "table_in" ["records"] (spD K PTable) := by
  have O_numbers_last : Ok P w K mg base 4 _ _ _ := ok_numbers_last T
  refine ok_pure T 15 scTableIn (fun ds d h => by obtain ⟨rs, _, rfl, _⟩ := h; rfl) (fun _ _ _ _ _ _ us hl => match us, hl with | [_], _ => rfl) (fun cdv A outer s H E hr => ⟨_, pss_one (ps_ret (pe_callTy (r := rTupS K) call_tupS (by rfl) T.tupleN (by decide +kernel) (pa_cons (pe_callB (r := rSortD K) (cr_sortD hr.units) (by rfl) T.sortedN (by decide +kernel) (pa_cons (pe_lc (own := [("key", 1), ("number", 2)]) (g := (gTup K 2 (gCons (gName 1) (gCons (gName 2) gNil)))) rfl scTableIn.nd (pi_items (pe_lockA (pe_cal O_numbers_last hr (pa_cons (pv 0) pa_nil)))) (blkOk_by (N := ["records", "key", "number"]) (sc := defScope sTableIn) (by decide +kernel)) (fun _ _ _ _ _ => (pg_tup rfl (pgs_cons (pg_name (i := 1) scTableIn.nd rfl (Or.inl rfl)) (pgs_cons (pg_name (i := 2) scTableIn.nd rfl (Or.inl rfl)) pgs_nil)))) (fun _ _ _ _ _ => pts_nil) (fun _ _ _ _ _ => (pe_tup (pa_cons (pv 1) (pa_cons (pe_ix (r := rIxT K) ix_tup (pe_ix (r := rIxT K) ix_tup (pv 0) (pv 2) (fun _ _ => rfl)) pe_int (fun _ _ => rfl)) pa_nil))))) pa_nil)) pa_nil))), fun ds d h => ?_⟩)
  obtain ⟨rs, hn, rfl, rfl⟩ := h
  obtain ⟨s1, s2, s3⟩ := tableL_sorts rs
  refine bg_ret (eg_tupL (eg_sort ?_ s1 s2 s3))
  refine eg_lc (js := [1, 2]) (α := Key × (Nat × Rec)) (enc := fun x => itemD (x.1, .int (x.2.1 : Nat))) (xs := puts rs) ?src (fun x => [.dat (rowD rs), .dat (keyD x.1), .dat (.int (x.2.1 : Nat))]) (fun x _ => bnd_two) _ ?len (fun x hx => ?_)
  case src =>
    exact src_is (src_itemsN (dg_num (ag_cons (eg_var rfl) ag_nil) hn)) (by rw [numD_eq, List.map_map]; rfl)
  case len =>
    have := puts_short rs
    omega
  · obtain ⟨h1, h2, h3, h4⟩ := puts_at hx
    refine eg_tup (ag_cons (eg_is (eg_var rfl) ?_) (ag_cons (eg_ixT (eg_ixT (eg_var rfl) (eg_var rfl) (at_row rfl h2)) eg_int ?_) ag_nil))
    · rw [h1]
      rfl
    · rw [← h3]
      exact at_word h4
end
end HR

set_option Elab.async false
set_option linter.all false
set_option maxRecDepth 100000
set_option maxHeartbeats 4000000
namespace HR
open PySem PySem.Spec L2
/-! ### drawn rows -/
def Rec.at (r : Rec) (p l : Nat) : Rec := match r with
  | .blank => .blank
  | .put k w _ _ => .put k w p l
  | .drop k _ _ => .drop k p l
def lotRecs (ss : List Rec) : List Rec := ss.zipIdx.map fun x => x.1.at x.2 (ss.length - 1 - x.2)
def followsB (a b : Rec) : Bool := b.isBlank || (decide (b.place = 0) || isPart a ((b.place : Nat) - 1 : Int) ((b.left : Nat) + 1 : Int))
/-- each record follows the one ahead of it -/
def unb (rs : List Rec) : Prop := ∀ (i : Nat) (a b : Rec), rs[i]? = some a → rs[i + 1]? = some b → followsB a b = true
theorem at_good {r : Rec} {p l : Nat} (h : r.isBlank = false) : (r.at p l).isBlank = false ∧ (r.at p l).place = p ∧ (r.at p l).left = l ∧ recOk (r.at p l) = recOk r ∧ enc (r.at p l) = .tuple (encSL r ++ [.int (p : Nat), .int (l : Nat)]) := by
  cases r with
  | blank => cases h
  | put k w p' l' => exact ⟨rfl, rfl, rfl, rfl, rfl⟩
  | drop k p' l' => exact ⟨rfl, rfl, rfl, rfl, rfl⟩
theorem follows_iff {a b : Rec} : followsB a b = true ↔ b.isBlank = true ∨ b.place = 0 ∨ (a.isBlank = false ∧ a.place + 1 = b.place ∧ a.left = b.left + 1) := by
  unfold followsB
  rw [Bool.or_eq_true, Bool.or_eq_true, decide_eq_true_iff]
  by_cases h0 : b.place = 0
  · exact ⟨fun _ => .inr (.inl h0), fun _ => .inr (.inl h0)⟩
  · rw [show ((b.place : Nat) - 1 : Int) = ((b.place - 1 : Nat) : Int) by omega, show ((b.left : Nat) + 1 : Int) = ((b.left + 1 : Nat) : Int) by omega, part_iff]
    constructor
    · rintro (h | h | ⟨h1, h2, h3⟩)
      · exact .inl h
      · exact .inr (.inl h)
      · exact .inr (.inr ⟨h1, by omega, h3⟩)
    · rintro (h | h | ⟨h1, h2, h3⟩)
      · exact .inl h
      · exact .inr (.inl h)
      · exact .inr (.inr ⟨h1, by omega, h3⟩)
theorem unb_nil : unb [] := fun i a b h => by
  rw [List.getElem?_nil] at h
  cases h
theorem unb_take {rs : List Rec} (h : unb rs) (m : Nat) : unb (rs.take m) := fun i a b h1 h2 => by
  rw [List.getElem?_take] at h1 h2
  split at h1
  · split at h2
    · exact h i a b h1 h2
    · cases h2
  · cases h1
theorem unb_drop {rs : List Rec} (h : unb rs) (m : Nat) : unb (rs.drop m) := fun i a b h1 h2 => by
  rw [List.getElem?_drop] at h1 h2
  exact h (m + i) a b h1 (by rw [← h2, Nat.add_assoc])
theorem unb_app {xs ys : List Rec} (h1 : unb xs) (h2 : unb ys) (h : ∀ b, ys[0]? = some b → b.isBlank = true ∨ b.place = 0) : unb (xs ++ ys) := fun i a b e1 e2 => by
  by_cases hi : i + 1 < xs.length
  · rw [List.getElem?_append_left (by omega)] at e1
    rw [List.getElem?_append_left hi] at e2
    exact h1 i a b e1 e2
  · rw [List.getElem?_append_right (by omega)] at e2
    by_cases hj : i + 1 = xs.length
    · rw [hj, Nat.sub_self] at e2
      rcases h b e2 with q | q
      · exact follows_iff.mpr (.inl q)
      · exact follows_iff.mpr (.inr (.inl q))
    · rw [List.getElem?_append_right (by omega)] at e1
      exact h2 (i - xs.length) a b e1 (by rw [← e2]; congr 1; omega)
theorem lotRecs_len (ss : List Rec) : (lotRecs ss).length = ss.length := by
  unfold lotRecs
  rw [List.length_map, List.length_zipIdx]
theorem lotRecs_get {ss : List Rec} {i : Nat} {a : Rec} (h : (lotRecs ss)[i]? = some a) : ∃ s, ss[i]? = some s ∧ a = s.at i (ss.length - 1 - i) := by
  unfold lotRecs at h
  rw [List.getElem?_map, List.getElem?_zipIdx] at h
  cases e : ss[i]? with
  | none =>
    rw [e] at h
    cases h
  | some s =>
    rw [e] at h
    refine ⟨s, rfl, ?_⟩
    have := Option.some.inj h
    rw [← this]
    show s.at (0 + i) (ss.length - 1 - (0 + i)) = _
    rw [Nat.zero_add]
theorem lotRecs_unb {ss : List Rec} (h : ∀ s ∈ ss, s.isBlank = false) : unb (lotRecs ss) := fun i a b h1 h2 => by
  obtain ⟨s, e1, rfl⟩ := lotRecs_get h1
  obtain ⟨t, e2, rfl⟩ := lotRecs_get h2
  obtain ⟨a1, a2, a3, _⟩ := at_good (p := i) (l := ss.length - 1 - i) (h s (List.mem_of_getElem? e1))
  obtain ⟨b1, b2, b3, _⟩ := at_good (p := i + 1) (l := ss.length - 1 - (i + 1)) (h t (List.mem_of_getElem? e2))
  have hi := (List.getElem?_eq_some_iff.mp e2).1
  exact follows_iff.mpr (.inr (.inr ⟨a1, by rw [a2, b2], by rw [a3, b3]; omega⟩))
theorem lotRecs_first {ss : List Rec} (h : ∀ s ∈ ss, s.isBlank = false) {b : Rec} (h2 : (lotRecs ss)[0]? = some b) : b.isBlank = true ∨ b.place = 0 := by
  obtain ⟨t, e2, rfl⟩ := lotRecs_get h2
  exact .inr (at_good (h t (List.mem_of_getElem? e2))).2.1
theorem lotRecs_ok {ss : List Rec} (h : ∀ s ∈ ss, s.isBlank = false ∧ recOk s = true) : ∀ r ∈ lotRecs ss, recOk r = true := fun r hr => by
  obtain ⟨i, hi⟩ := List.mem_iff_getElem?.mp hr
  obtain ⟨s, e1, rfl⟩ := lotRecs_get hi
  have := h s (List.mem_of_getElem? e1)
  rw [(at_good this.1).2.2.2.1]
  exact this.2
/-- a piece that is drawn for a row -/
structure Piece (rs : List Rec) : Prop where
  unb : unb rs
  first : ∀ b, rs[0]? = some b → b.isBlank = true ∨ b.place = 0
  good : ∀ r ∈ rs, recOk r = true
  short : rs.length ≤ 4
theorem Piece.lot {ss : List Rec} (h : ∀ s ∈ ss, s.isBlank = false ∧ recOk s = true) (hl : ss.length ≤ 4) : Piece (lotRecs ss) where
  unb := lotRecs_unb fun s hs => (h s hs).1
  first := fun b hb => lotRecs_first (fun s hs => (h s hs).1) hb
  good := lotRecs_ok h
  short := by rw [lotRecs_len]; exact hl
theorem Piece.take {rs : List Rec} (h : Piece rs) (m : Nat) : Piece (rs.take m) where
  unb := unb_take h.unb m
  first := fun b hb => by
    rw [List.getElem?_take] at hb
    split at hb
    · exact h.first b hb
    · cases hb
  good := fun r hr => h.good r (List.mem_of_mem_take hr)
  short := by
    rw [List.length_take]
    have := h.short
    omega
theorem Piece.blank : Piece [.blank] where
  unb := fun i a b _ h2 => by
    rw [List.getElem?_cons_succ, List.getElem?_nil] at h2
    cases h2
  first := fun b hb => by
    cases Option.some.inj hb
    exact .inl rfl
  good := fun r hr => by
    rw [List.mem_singleton.mp hr]
    rfl
  short := by decide
structure Drawn (rs : List Rec) (n : Nat) : Prop where
  unb : unb rs
  good : ∀ r ∈ rs, recOk r = true
  short : rs.length ≤ n
theorem Drawn.nil : Drawn [] 0 where
  unb := unb_nil
  good := fun r hr => by cases hr
  short := Nat.le_refl _
theorem Drawn.add {rs ps : List Rec} {n : Nat} (h : Drawn rs n) (p : Piece ps) : Drawn (rs ++ ps) (n + 4) where
  unb := unb_app h.unb p.unb p.first
  good := fun r hr => by
    rcases List.mem_append.mp hr with q | q
    · exact h.good r q
    · exact p.good r q
  short := by
    rw [List.length_append]
    have := h.short
    have := p.short
    omega
theorem Drawn.drop {rs : List Rec} {n : Nat} (h : Drawn rs n) (m : Nat) : Drawn (rs.drop m) n where
  unb := unb_drop h.unb m
  good := fun r hr => h.good r (List.mem_of_mem_drop hr)
  short := by
    rw [List.length_drop]
    have := h.short
    omega
end HR

set_option Elab.async false
set_option linter.all false
set_option maxRecDepth 100000
set_option maxHeartbeats 4000000
namespace HR
open PySem PySem.Spec PyProof.Rows L2 Evl
theorem word_str {k : Str} (h : wordOk k = true) : PyData.strOk k = true := by
  unfold wordOk at h
  rw [Bool.and_eq_true, Bool.and_eq_true] at h
  have h3 := List.all_eq_true.mp h.2.2
  unfold PyData.strOk
  rw [Array.all_eq_true']
  intro c hc
  have h4 := of_decide_eq_true (h3 c (Array.mem_toList_iff.mpr hc))
  have h5 : ∀ c ∈ signs.cps.toList, decide (c < 0x110000) = true := by decide +kernel
  exact h5 c h4
/-- a tuple of pairs can be compared -/
theorem pairs_shaped : ∀ (ds : List PyData), (∀ d ∈ ds, ∃ n k, d = pIS n k ∧ wordOk k = true) → PyData.canLayAll0 ds = true ∧ PyData.depthAll ds ≤ 5
  | [], _ => ⟨by simp [PyData.canLayAll0], by simp [PyData.depthAll]⟩
  | d :: ds, h => by
    obtain ⟨n, k, rfl, hk⟩ := h d List.mem_cons_self
    obtain ⟨h1, h2⟩ := pairs_shaped ds fun d hd => h d (List.mem_cons_of_mem _ hd)
    have e1 : PyData.canLay0 (pIS n k) = true := by
      show PyData.canLay0 (.tuple [.int _, .str _]) = true
      simp [PyData.canLay0, PyData.canLayAll0, word_str hk]
    have e2 : PyData.depth (pIS n k) ≤ 5 := by
      show PyData.depth (.tuple [.int _, .str _]) ≤ 5
      simp [PyData.depth, PyData.depthAll]
    constructor
    · rw [PyData.canLayAll0, e1, h1]
      rfl
    · rw [PyData.depthAll]
      exact Nat.max_le.mpr ⟨e2, h2⟩
theorem rec_mem {rs : List Rec} {j : Nat} (h : j < rs.length) : recAt rs j ∈ rs := List.mem_of_getElem? (recAt_get h)
theorem lastsD_pairs {rs : List Rec} (g : ∀ r ∈ rs, recOk r = true) : ∀ d ∈ lastsD rs, ∃ n k, d = pIS n k ∧ wordOk k = true := fun d hd => by
  obtain ⟨j, h, rfl⟩ := mem_lastsD.mp hd
  refine ⟨_, _, rfl, ?_⟩
  have := g _ (rec_mem (covered_lt h.1.1))
  have hp := h.2
  cases e : recAt rs j with
  | blank =>
    rw [e] at hp
    cases hp
  | put k w p l =>
    rw [e] at this
    exact (Bool.and_eq_true _ _ ▸ this : _ ∧ _).1
  | drop k p l =>
    rw [e] at hp
    cases hp
theorem shaped_tup {ds : List PyData} (h : ∀ d ∈ ds, ∃ n k, d = pIS n k ∧ wordOk k = true) : SeqAt.shaped (.tuple ds) = true := by
  obtain ⟨h1, h2⟩ := pairs_shaped ds h
  unfold SeqAt.shaped
  rw [PyData.canLay0, h1, PyData.depth, Bool.true_and]
  exact decide_eq_true (by omega)
theorem shaped_lst {ds : List PyData} (h : ∀ d ∈ ds, ∃ n k, d = pIS n k ∧ wordOk k = true) : SeqAt.shaped (.list ds) = true := by
  obtain ⟨h1, h2⟩ := pairs_shaped ds h
  unfold SeqAt.shaped
  rw [PyData.canLay0, h1, PyData.depth, Bool.true_and]
  exact decide_eq_true (by omega)
theorem bg_par {K : PySem.W.Frag} {Γ : Ctx} {ta : TA} {tz : TS} {i j : Nat} {d1 d2 d' : PyData} (h : AG K ta Γ [d1, d2]) (k : BG K tz ((Γ.set i (.dat d1)).set j (.dat d2)) d') (hi : i < Γ.length := by exact Nat.le_of_ble_eq_true rfl) (hj : j < Γ.length := by exact Nat.le_of_ble_eq_true rfl) : BG K (tSeq (tPar i j ta) tz) Γ d' := fun H0 M L σ H D E q => by
  refine h H0 M L σ H E _ fun vs H1 e1 h1 => ?_
  obtain ⟨v, v', rfl, hv, hv'⟩ := ag_2 h1
  exact ⟨v, v', rfl, k H0 M L _ H1 D (((E.mono e1).set hi hv).set (by rw [List.length_set]; exact hj) hv') fun v H' e h => q v H' (e1.trans e) h⟩
def unbrokenB (rs : List Rec) : Bool := ((rs.zip (rs.drop 1)).map fun p => followsB p.1 p.2).all id
def spareD (rs : List Rec) : PyData := match lastsD rs with
  | .tuple (.int n :: _) :: _ => .int n
  | _ => .int (rs.length : Nat)
section
variable {P : Program} {w : World} {K : PySem.W.Frag} {mg : Str → Option Value} {base : Heap}
theorem scWindowIn : FnScope ["records", "many", "left"] ["records", "many"] (defScope sWindowIn) := ⟨rfl, rfl, rfl, by decide +kernel, rfl, by decide +kernel, by decide +kernel⟩
def PWindow (ds : List PyData) (d : PyData) : Prop := ∃ (rs : List Rec) (m : Nat), rs.length ≤ 40 ∧ m ≤ rs.length ∧ ds = [rowD rs, .int (m : Nat)] ∧ d = rowD (rs.drop (rs.length - m))
theorem ok_window_in (T : Top K mg) : Ok P w K mg base 1 "window_in" ["records", "many"] (spD K PWindow) := by
  refine ok_pure T 16 scWindowIn (fun ds d h => by obtain ⟨rs, m, _, _, rfl, _⟩ := h; rfl) (fun _ _ _ _ _ _ us hl => match us, hl with | [_, _], _ => rfl) (fun cdv A outer s H E hr => ⟨_, pss_cons (ps_set (i := 2) scWindowIn.nd rfl (.inl rfl) (pe_callB call_max2X (by rfl) T.maxN (by decide +kernel) (pa_cons pe_int (pa_cons (pe_op op_sub (pe_callB (r := rLenX K) call_lenX (by rfl) T.lenN (by decide +kernel) (pa_cons (pv 0) pa_nil)) (pv 1)) pa_nil))))
      (pss_one (ps_ret (pe_op (r := rCatA K) op_catA (pe_op (r := rRepT0 K) op_repT0 (pe_tup (pa_cons (pe_glob (v := .ref (He.ga K "BLANK")) (by rfl) T.blank rfl) pa_nil)) (pe_op op_sub (pv 1) (pe_callB (r := rLenX K) call_lenX (by rfl) T.lenN (by decide +kernel) (pa_cons (pv 0) pa_nil)))) (pe_slice (r := rSlA K) sl_tupA (pv 0) (po_some (pv 2)) po_none)))), fun ds d h => ?_⟩)
  obtain ⟨rs, m, hn, hm, rfl, rfl⟩ := h
  refine bg_asg (d := .int ((rs.length - m : Nat) : Int)) (eg_is (eg_max2 eg_int (eg_II (eg_lenXT (eg_var rfl)) (eg_var rfl))) ?_) (bg_ret (eg_is (eg_catT (eg_rep0 (eg_tup (ag_cons (eg_blank T) ag_nil)) (eg_II (eg_var rfl) (eg_lenXT (eg_var rfl))) (by simp) ?_ ?_) (eg_slT (eg_var rfl) (og_some (eg_var rfl)) og_none) ?_) ?_))
  · rw [List.length_map]
    congr 1
    split <;> omega
  · rw [List.length_map]
    omega
  · rw [List.length_map]
    omega
  · rw [cut_from, List.length_drop, List.length_map, List.length_nil]
    omega
  · rw [cut_from, List.nil_append, ← List.map_drop]
    rfl
theorem scWindowsIn : FnScope ["records", "writes", "both", "far"] ["records", "writes"] (defScope sWindowsIn) := ⟨rfl, rfl, rfl, by decide +kernel, rfl, by decide +kernel, by decide +kernel⟩
def PWindows (ds : List PyData) (d : PyData) : Prop := ∃ (rs ws : List Rec), rs.length + ws.length ≤ 40 ∧ ds = [rowD rs, rowD ws] ∧ d = .list ((List.range (ws.length + 1)).map fun far => rowD (((rs ++ ws).drop far).take rs.length))
theorem ok_windows_in (T : Top K mg) : Ok P w K mg base 1 "windows_in" ["records", "writes"] (spD K PWindows) := by
  refine ok_pure T 17 scWindowsIn (fun ds d h => by obtain ⟨rs, m, _, rfl, _⟩ := h; rfl) (fun _ _ _ _ _ _ us hl => match us, hl with | [_, _], _ => rfl) (fun cdv A outer s H E hr => ⟨_, pss_cons (ps_set (i := 2) scWindowsIn.nd rfl (.inr rfl) (pe_op (r := rCatA K) op_catA (pv 0) (pv 1)))
      (pss_one (ps_ret (pe_lc (own := [("far", 3)]) (g := (gName 3)) rfl scWindowsIn.nd (pi_range1 (by rfl) T.rangeN (pa_cons (pe_op op_add (pe_callB (r := rLenX K) call_lenX (by rfl) T.lenN (by decide +kernel) (pa_cons (pv 1) pa_nil)) pe_int) pa_nil)) (blkOk_by (N := ["records", "writes", "both", "far"]) (sc := defScope sWindowsIn) (by decide +kernel)) (fun _ _ _ _ _ => (pg_name (i := 3) scWindowsIn.nd rfl (Or.inl rfl))) (fun _ _ _ _ _ => pts_nil) (fun _ _ _ _ _ => (pe_slice (r := rSlA K) sl_tupA (pv 2) (po_some (pv 3)) (po_some (pe_op op_add (pv 3) (pe_callB (r := rLenX K) call_lenX (by rfl) T.lenN (by decide +kernel) (pa_cons (pv 0) pa_nil))))))))), fun ds d h => ?_⟩)
  obtain ⟨rs, ws, hn, rfl, rfl⟩ := h
  refine bg_asg (d := rowD (rs ++ ws)) (eg_is (eg_catT (eg_var rfl) (eg_var rfl) (by rw [List.length_map, List.length_map]; omega)) (by rw [← List.map_append]; rfl)) ?_
  refine bg_ret (eg_lc (js := [3]) (α := Nat) (enc := fun i => .int (i : Nat)) (xs := List.range (ws.length + 1)) (src_rng1 (ag_cons (eg_is (eg_II (eg_lenXT (eg_var rfl)) eg_int) (by rw [List.length_map]; congr 1)) ag_nil) (by omega))
    (fun i => [.dat (rowD rs), .dat (rowD ws), .dat (rowD (rs ++ ws)), .dat (.int (i : Nat))]) (fun i _ => bnd_name) _ (by rw [List.length_range]; omega) fun i hi => ?_)
  have hi2 := List.mem_range.mp hi
  refine eg_is (eg_slT (eg_var rfl) (og_some (eg_var rfl)) (og_some (eg_is (d' := .int ((i + rs.length : Nat) : Int)) (eg_II (eg_var rfl) (eg_lenXT (eg_var rfl))) (by rw [List.length_map]; congr 1)))) ?_
  rw [cut_map, cut_nat _ _ _ (by rw [List.length_append]; omega) (by rw [List.length_append]; omega), show i + rs.length - i = rs.length by omega]
  rfl
theorem scTableOf : FnScope ["records"] ["records"] (defScope sTableOf) := ⟨rfl, rfl, rfl, by decide +kernel, rfl, by decide +kernel, by decide +kernel⟩
def PTableOf (ds : List PyData) (d : PyData) : Prop := ∃ (x : PyData) (rs : List Rec), RowIn x rs ∧ ds = [x] ∧ d = .tuple (tableD rs)
theorem ok_table_of (T : Top K mg) : Ok P w K mg base 8 "table_of" ["records"] (spD K PTableOf) := by
  have O_sure_records : Ok P w K mg base 7 _ _ _ := ok_sure_records T
  have O_table_in : Ok P w K mg base 7 _ _ _ := (ok_table_in T).mono (by decide)
  refine ok_pure T 18 scTableOf (fun ds d h => by obtain ⟨x, rs, _, rfl, _⟩ := h; rfl) (fun _ _ _ _ _ _ us hl => match us, hl with | [_], _ => rfl) (fun cdv A outer s H E hr => ⟨_, pss_one (ps_ret (pe_cal O_table_in hr (pa_cons (pe_cal O_sure_records hr (pa_cons (pv 0) pa_nil)) pa_nil))), fun ds d h => ?_⟩)
  obtain ⟨x, rs, hx, rfl, rfl⟩ := h
  exact bg_ret (eg_call (ag_cons (eg_call (ag_cons (eg_var rfl) ag_nil) ⟨x, rs, hx, rfl, rfl⟩) ag_nil) ⟨rs, hx.small, rfl, rfl⟩)
theorem scLastWords : FnScope ["records"] ["records"] (defScope sLastWords) := ⟨rfl, rfl, rfl, by decide +kernel, rfl, by decide +kernel, by decide +kernel⟩
def PLastWords (ds : List PyData) (d : PyData) : Prop := ∃ (x : PyData) (rs : List Rec), RowIn x rs ∧ ds = [x] ∧ d = .tuple (lastsD rs)
theorem ok_last_words (T : Top K mg) : Ok P w K mg base 8 "last_words" ["records"] (spD K PLastWords) := by
  have O_sure_records : Ok P w K mg base 7 _ _ _ := ok_sure_records T
  have O_lasts_in : Ok P w K mg base 7 _ _ _ := (ok_lasts_in T).mono (by decide)
  refine ok_pure T 19 scLastWords (fun ds d h => by obtain ⟨x, rs, _, rfl, _⟩ := h; rfl) (fun _ _ _ _ _ _ us hl => match us, hl with | [_], _ => rfl) (fun cdv A outer s H E hr => ⟨_, pss_one (ps_ret (pe_cal O_lasts_in hr (pa_cons (pe_cal O_sure_records hr (pa_cons (pv 0) pa_nil)) pa_nil))), fun ds d h => ?_⟩)
  obtain ⟨x, rs, hx, rfl, rfl⟩ := h
  exact bg_ret (eg_call (ag_cons (eg_call (ag_cons (eg_var rfl) ag_nil) ⟨x, rs, hx, rfl, rfl⟩) ag_nil) ⟨rs, hx.small, rfl, rfl⟩)
theorem scWindowOf : FnScope ["records", "many", "own"] ["records", "many"] (defScope sWindowOf) := ⟨rfl, rfl, rfl, by decide +kernel, rfl, by decide +kernel, by decide +kernel⟩
def PWindowOf (ds : List PyData) (d : PyData) : Prop := ∃ (x : PyData) (rs : List Rec) (m : Nat), RowIn x rs ∧ m ≤ rs.length ∧ ds = [x, .int (m : Nat)] ∧ d = rowD (rs.drop (rs.length - m))
theorem ok_window_of (T : Top K mg) : Ok P w K mg base 8 "window_of" ["records", "many"] (spD K PWindowOf) := by
  have O_sure_records : Ok P w K mg base 7 _ _ _ := ok_sure_records T
  have O_sure_many : Ok P w K mg base 7 _ _ _ := (ok_sure_many T).mono (by decide)
  have O_window_in : Ok P w K mg base 7 _ _ _ := (ok_window_in T).mono (by decide)
  refine ok_pure T 20 scWindowOf (fun ds d h => by obtain ⟨x, rs, m, _, _, rfl, _⟩ := h; rfl) (fun _ _ _ _ _ _ us hl => match us, hl with | [_, _], _ => rfl) (fun cdv A outer s H E hr => ⟨_, pss_cons (ps_set (i := 2) scWindowOf.nd rfl (.inl rfl) (pe_cal O_sure_records hr (pa_cons (pv 0) pa_nil)))
      (pss_one (ps_ret (pe_cal O_window_in hr (pa_cons (pv 2) (pa_cons (pe_cal O_sure_many hr (pa_cons (pv 1) pa_nil)) pa_nil))))), fun ds d h => ?_⟩)
  obtain ⟨x, rs, m, hx, hm, rfl, rfl⟩ := h
  refine bg_asg (d := rowD rs) (eg_call (ag_cons (eg_var rfl) ag_nil) ⟨x, rs, hx, rfl, rfl⟩) ?_
  exact bg_ret (eg_call (ag_cons (eg_var rfl) (ag_cons (eg_call (ag_cons (eg_var rfl) ag_nil) ⟨(m : Nat), rfl, by omega, rfl⟩) ag_nil)) ⟨rs, m, hx.small, hm, rfl, rfl⟩)
theorem scSpare : FnScope ["records", "own", "lasts"] ["records"] (defScope sSpare) := ⟨rfl, rfl, rfl, by decide +kernel, rfl, by decide +kernel, by decide +kernel⟩
def PSpare (ds : List PyData) (d : PyData) : Prop := ∃ (x : PyData) (rs : List Rec), RowIn x rs ∧ ds = [x] ∧ d = spareD rs
theorem ok_spare (T : Top K mg) : Ok P w K mg base 8 "spare" ["records"] (spD K PSpare) := by
  have O_sure_records : Ok P w K mg base 7 _ _ _ := ok_sure_records T
  have O_lasts_in : Ok P w K mg base 7 _ _ _ := (ok_lasts_in T).mono (by decide)
  refine ok_pure T 21 scSpare (fun ds d h => by obtain ⟨x, rs, _, rfl, _⟩ := h; rfl) (fun _ _ _ _ _ _ us hl => match us, hl with | [_], _ => rfl) (fun cdv A outer s H E hr => ⟨_, pss_cons (ps_set (i := 1) scSpare.nd rfl (.inl rfl) (pe_cal O_sure_records hr (pa_cons (pv 0) pa_nil)))
      (pss_cons (ps_set (i := 2) scSpare.nd rfl (.inl rfl) (pe_cal O_lasts_in hr (pa_cons (pv 1) pa_nil)))
      (pss_one (ps_ret (pe_ifExp (pt_cmpR (r := rEqD K) (op_eqD hr.units) (pv 2) (pe_tup pa_nil) (nomark _)) (pe_callB (r := rLenX K) call_lenX (by rfl) T.lenN (by decide +kernel) (pa_cons (pv 1) pa_nil)) (pe_ix (r := rIxT K) ix_tup (pe_ix (r := rIxT K) ix_tup (pv 2) pe_int (fun _ _ => rfl)) pe_int (fun _ _ => rfl)))))), fun ds d h => ?_⟩)
  obtain ⟨x, rs, hx, rfl, rfl⟩ := h
  refine bg_asg (d := rowD rs) (eg_call (ag_cons (eg_var rfl) ag_nil) ⟨x, rs, hx, rfl, rfl⟩) ?_
  refine bg_asg (d := .tuple (lastsD rs)) (eg_call (ag_cons (eg_var rfl) ag_nil) ⟨rs, hx.small, rfl, rfl⟩) ?_
  refine bg_ret (eg_if (tg_T (eg_eq (eg_var rfl) (eg_tup ag_nil) (shaped_tup (lastsD_pairs hx.good)))) (fun h => ?_) fun h => ?_)
  · refine eg_is (eg_lenXT (eg_var rfl)) ?_
    cases e : lastsD rs with
    | nil =>
      unfold spareD
      rw [e, List.length_map]
    | cons d l =>
      rw [e] at h
      cases h
  · cases e : lastsD rs with
    | nil =>
      rw [e] at h
      cases h
    | cons d l =>
      obtain ⟨n, k, rfl, _⟩ := lastsD_pairs hx.good d (by rw [e]; exact List.mem_cons_self)
      refine eg_ixT (ds := [.int (n : Nat), .str k]) (eg_ixT (eg_var rfl) eg_int ?_) eg_int ?_
      · exact atI_nat (j := 0) rfl
      · unfold spareD
        rw [e]
        rfl
theorem okK_spare (T : Top K mg) : OkK P w K mg base 8 "spare" "records" ["records"] (spD K PSpare) :=
  okK_of T 21 (ok_spare T) (fun _ _ _ _ _ _ ws hl => match ws, hl with | [_], _ => rfl) rfl
theorem scTablesBehind : FnScope ["records", "writes", "own", "more", "one"] ["records", "writes"] (defScope sTablesBehind) := ⟨rfl, rfl, rfl, by decide +kernel, rfl, by decide +kernel, by decide +kernel⟩
def PTablesBehind (ds : List PyData) (d : PyData) : Prop := ∃ (x y : PyData) (rs ws : List Rec), RowIn x rs ∧ RowIn y ws ∧ rs.length + ws.length ≤ 40 ∧ ds = [x, y] ∧ d = .list ((List.range (ws.length + 1)).map fun far => .tuple (tableD (((rs ++ ws).drop far).take rs.length)))
theorem ok_tables_behind (T : Top K mg) : Ok P w K mg base 8 "tables_behind" ["records", "writes"] (spD K PTablesBehind) := by
  have O_sure_records : Ok P w K mg base 7 _ _ _ := ok_sure_records T
  have O_table_in : Ok P w K mg base 7 _ _ _ := (ok_table_in T).mono (by decide)
  have O_windows_in : Ok P w K mg base 7 _ _ _ := (ok_windows_in T).mono (by decide)
  refine ok_pure T 22 scTablesBehind (fun ds d h => by obtain ⟨x, y, rs, ws, _, _, _, rfl, _⟩ := h; rfl) (fun _ _ _ _ _ _ us hl => match us, hl with | [_, _], _ => rfl) (fun cdv A outer s H E hr => ⟨_, pss_cons (ps_par (i := 2) (j := 3) (by rfl) scTablesBehind.nd rfl rfl (by decide) rfl rfl (pa_cons (pe_cal O_sure_records hr (pa_cons (pv 0) pa_nil)) (pa_cons (pe_cal O_sure_records hr (pa_cons (pv 1) pa_nil)) pa_nil)) (by rfl))
      (pss_one (ps_ret (pe_lc (own := [("one", 4)]) (g := (gName 4)) rfl scTablesBehind.nd (pi_list (pe_cal O_windows_in hr (pa_cons (pv 2) (pa_cons (pv 3) pa_nil)))) (blkOk_by (N := ["records", "writes", "own", "more", "one"]) (sc := defScope sTablesBehind) (by decide +kernel)) (fun _ _ _ _ _ => (pg_name (i := 4) scTablesBehind.nd rfl (Or.inl rfl))) (fun _ _ _ _ _ => pts_nil) (fun _ _ _ _ _ => (pe_cal O_table_in hr (pa_cons (pv 4) pa_nil)))))), fun ds d h => ?_⟩)
  obtain ⟨x, y, rs, ws, hx, hy, hn, rfl, rfl⟩ := h
  refine bg_par (d1 := rowD rs) (d2 := rowD ws) (ag_cons (eg_call (ag_cons (eg_var rfl) ag_nil) ⟨x, rs, hx, rfl, rfl⟩) (ag_cons (eg_call (ag_cons (eg_var rfl) ag_nil) ⟨y, ws, hy, rfl, rfl⟩) ag_nil)) ?_
  exact bg_ret (eg_lc (js := [4]) (α := Nat) (enc := fun far => rowD (((rs ++ ws).drop far).take rs.length)) (xs := List.range (ws.length + 1)) (src_list (eg_call (ag_cons (eg_var rfl) (ag_cons (eg_var rfl) ag_nil)) ⟨rs, ws, hn, rfl, rfl⟩))
    (fun far => [.dat x, .dat y, .dat (rowD rs), .dat (rowD ws), .dat (rowD (((rs ++ ws).drop far).take rs.length))]) (fun i _ => bnd_name) _ (by rw [List.length_range]; omega) fun i hi => eg_call (ag_cons (eg_var rfl) ag_nil) ⟨_, by rw [List.length_take]; omega, rfl, rfl⟩)
theorem scFollows : FnScope ["one", "other"] ["one", "other"] (defScope sFollows) := ⟨rfl, rfl, rfl, by decide +kernel, rfl, by decide +kernel, by decide +kernel⟩
def PFollows (ds : List PyData) (d : PyData) : Prop := ∃ (a b : Rec), ds = [enc a, enc b] ∧ d = .bool (followsB a b)
theorem ok_follows (T : Top K mg) : Ok P w K mg base 2 "follows" ["one", "other"] (spD K PFollows) := by
  have O_is_part : Ok P w K mg base 1 _ _ _ := ok_is_part T
  refine ok_pure T 23 scFollows (fun ds d h => by obtain ⟨x, rs, rfl, _⟩ := h; rfl) (fun _ _ _ _ _ _ us hl => match us, hl with | [_, _], _ => rfl) (fun cdv A outer s H E hr => ⟨_, pss_one (ps_ret (pe_or (pe_cmpR op_eq (pe_ix (r := rIxT K) ix_tup (pv 1) pe_int (fun _ _ => rfl)) pe_str (nomark _)) (pe_or (pe_cmpR op_eq (pe_ix (r := rIxT K) ix_tup (pv 1) (pe_un un_neg pe_int) (fun _ _ => rfl)) pe_int (nomark _)) (pe_one (pe_cal O_is_part hr (pa_cons (pv 0) (pa_cons (pe_op op_sub (pe_ix (r := rIxT K) ix_tup (pv 1) (pe_un un_neg pe_int) (fun _ _ => rfl)) pe_int) (pa_cons (pe_op op_add (pe_ix (r := rIxT K) ix_tup (pv 1) (pe_un un_neg pe_int) (fun _ _ => rfl)) pe_int) pa_nil)))))))), fun ds d h => ?_⟩)
  obtain ⟨a, b, rfl, rfl⟩ := h
  refine bg_ret (eg_is (eg_or (eg_eqS (eg_ixT (eg_var rfl) eg_int (at_0 b)) eg_str) fun h => ?_) (by rw [tag_blank]; rfl))
  rw [tag_blank] at h
  exact eg_is (eg_or (x := decide (b.place = 0)) (eg_is (eg_eqI (eg_ixT (eg_var rfl) (eg_U eg_int) (at_m2 h)) eg_int) (by congr 1; rw [decide_eq_decide]; omega)) fun h2 => eg_call (ag_cons (eg_var rfl) (ag_cons (eg_II (eg_ixT (eg_var rfl) (eg_U eg_int) (at_m2 h)) eg_int) (ag_cons (eg_II (eg_ixT (eg_var rfl) (eg_U eg_int) (at_m1 h)) eg_int) ag_nil))) ⟨_, _, _, rfl, rfl⟩) rfl
theorem scUnbrokenIn : FnScope ["records", "one", "other"] ["records"] (defScope sUnbrokenIn) := ⟨rfl, rfl, rfl, by decide +kernel, rfl, by decide +kernel, by decide +kernel⟩
def PUnbrokenIn (ds : List PyData) (d : PyData) : Prop := ∃ (rs : List Rec), rs.length ≤ 41 ∧ ds = [rowD rs] ∧ d = .bool (unbrokenB rs)
theorem ok_unbroken_in (T : Top K mg) : Ok P w K mg base 3 "unbroken_in" ["records"] (spD K PUnbrokenIn) := by
  have O_follows : Ok P w K mg base 2 _ _ _ := ok_follows T
  refine ok_pure T 24 scUnbrokenIn (fun ds d h => by obtain ⟨rs, _, rfl, _⟩ := h; rfl) (fun _ _ _ _ _ _ us hl => match us, hl with | [_], _ => rfl) (fun cdv A outer s H E hr => ⟨_, pss_one (ps_ret (pe_callB (r := rAll K) (cr_all rfl) (by rfl) T.allN (by decide +kernel) (pa_cons (pe_lc (own := [("one", 1), ("other", 2)]) (g := (gTup K 2 (gCons (gName 1) (gCons (gName 2) gNil)))) rfl scUnbrokenIn.nd (RZ.pi_zipA (by rfl) T.zipN (pa_cons (pv 0) (pa_cons (pe_slice (r := rSlA K) sl_tupA (pv 0) (po_some pe_int) po_none) pa_nil))) (blkOk_by (N := ["records", "one", "other"]) (sc := defScope sUnbrokenIn) (by decide +kernel)) (fun _ _ _ _ _ => (pg_tup rfl (pgs_cons (pg_name (i := 1) scUnbrokenIn.nd rfl (Or.inl rfl)) (pgs_cons (pg_name (i := 2) scUnbrokenIn.nd rfl (Or.inl rfl)) pgs_nil)))) (fun _ _ _ _ _ => pts_nil) (fun _ _ _ _ _ => (pe_cal O_follows hr (pa_cons (pv 1) (pa_cons (pv 2) pa_nil))))) pa_nil))), fun ds d h => ?_⟩)
  obtain ⟨rs, hn, rfl, rfl⟩ := h
  refine bg_ret (eg_all (eg_is (eg_lc (js := [1, 2]) (α := Rec × Rec) (enc := fun p => .tuple [enc p.1, enc p.2]) (xs := rs.zip (rs.drop 1)) (src_is (src_zipT (ag_cons (eg_var rfl) (ag_cons (eg_slT (eg_var rfl) (og_some eg_int) og_none) ag_nil))) ?_)
    (fun p => [.dat (rowD rs), .dat (enc p.1), .dat (enc p.2)]) (fun i _ => bnd_two) (fun p => .bool (followsB p.1 p.2)) (by rw [List.length_zip]; omega) fun p _ => eg_call (ag_cons (eg_var rfl) (ag_cons (eg_var rfl) ag_nil)) ⟨_, _, rfl, rfl⟩) (by rw [List.map_map]; rfl)))
  have e : cutD (rs.map enc) (some 1) none = (rs.drop 1).map enc := by
    rw [cut_map]
    exact congrArg _ (cut_from rs 1)
  rw [e, List.zip_map, List.map_map]
  rfl
theorem scIsUnbroken : FnScope ["records"] ["records"] (defScope sIsUnbroken) := ⟨rfl, rfl, rfl, by decide +kernel, rfl, by decide +kernel, by decide +kernel⟩
def PIsUnbroken (ds : List PyData) (d : PyData) : Prop := ∃ (x : PyData) (rs : List Rec), RowIn x rs ∧ ds = [x] ∧ d = .bool (unbrokenB rs)
theorem ok_is_unbroken (T : Top K mg) : Ok P w K mg base 8 "is_unbroken" ["records"] (spD K PIsUnbroken) := by
  have O_sure_records : Ok P w K mg base 7 _ _ _ := ok_sure_records T
  have O_unbroken_in : Ok P w K mg base 7 _ _ _ := (ok_unbroken_in T).mono (by decide)
  refine ok_pure T 25 scIsUnbroken (fun ds d h => by obtain ⟨x, rs, _, rfl, _⟩ := h; rfl) (fun _ _ _ _ _ _ us hl => match us, hl with | [_], _ => rfl) (fun cdv A outer s H E hr => ⟨_, pss_one (ps_ret (pe_cal O_unbroken_in hr (pa_cons (pe_cal O_sure_records hr (pa_cons (pv 0) pa_nil)) pa_nil))), fun ds d h => ?_⟩)
  obtain ⟨x, rs, hx, rfl, rfl⟩ := h
  exact bg_ret (eg_call (ag_cons (eg_call (ag_cons (eg_var rfl) ag_nil) ⟨x, rs, hx, rfl, rfl⟩) ag_nil) ⟨rs, by have := hx.small; omega, rfl, rfl⟩)
end
end HR

set_option Elab.async false
set_option linter.all false
set_option maxRecDepth 100000
set_option maxHeartbeats 4000000
namespace HR
open PySem PySem.Spec PyProof.Rows L2 Evl
/-! ### draws -/
section
variable {K : PySem.W.Frag} {H0 H H' : Hp} {M L : List Addr} {σ : L2.St} {Γ : Ctx} {te ta tb ti tv : TE} {t : TT} {ts tz : TS} {D : Ends} {d : PyData} {a : Addr} {n k m : Nat}
theorem TinAt.up (h : TinAt H a n) (hm : n ≤ m) : TinAt H a m := by
  obtain ⟨x, y, c, h1, h2, h3, h4, h5, h6⟩ := h
  exact ⟨x, y, c, h1, h2, h3, h4, h5, by omega⟩
theorem Env.tinUp (E : Env K H0 M L σ H (.tin a n :: Γ)) (hm : n ≤ m) : Env K H0 M L σ H (.tin a m :: Γ) := by
  refine ⟨E.len, E.live, E.sub, E.base, fun i e he => ?_⟩
  cases i with
  | zero =>
    cases Option.some.inj he
    obtain ⟨h1, h2, h3⟩ := E.ent 0 (.tin a n) rfl
    exact ⟨h1, h2, h3.up hm⟩
  | succ i => exact E.ent (i + 1) e he
/-- no other slot speaks of what changes -/
def plain (Γ : Ctx) : Bool := Γ.all fun e => e.addr.isNone
theorem Env.draw (E : Env K H0 M L σ H (.tin a n :: Γ)) (ha : a ∈ M) (hp : plain Γ = true) (e : Ex (er [a] H) (er [a] H')) (ht : TinAt H' a m) : Env K H0 M L σ H' (.tin a m :: Γ) := by
  have aL := E.sub a ha
  have eL : Ex (er L H) (er L H') := er_up (fun b hb => by rw [List.mem_singleton.mp hb]; exact aL) e
  have eM : Ex (er M H) (er M H') := er_up (fun b hb => by rw [List.mem_singleton.mp hb]; exact ha) e
  refine ⟨E.len, fun c hc => ?_, E.sub, E.base.trans eM, fun i x hx => ?_⟩
  · by_cases q : c = a
    · obtain ⟨_, _, _, h, _⟩ := ht
      exact ⟨_, q ▸ h⟩
    · obtain ⟨o, ho⟩ := E.live c hc
      exact ⟨o, (er_some (e c o (by rw [er_out (by simpa using q)]; exact ho))).2⟩
  · cases i with
    | zero =>
      cases Option.some.inj hx
      obtain ⟨h1, h2, _⟩ := E.ent 0 (.tin a n) rfl
      exact ⟨h1, h2, ht⟩
    | succ i =>
      have k := E.ent (i + 1) x hx
      have ad : x.addr = none := Option.isNone_iff_eq_none.mp (List.all_eq_true.mp hp x (List.mem_of_getElem? (i := i) hx))
      cases x with
      | no => trivial
      | dat d =>
        obtain ⟨v, h1, h2⟩ := k
        exact ⟨v, h1, dp_mono eL _ _ h2⟩
      | fn f => exact k
      | fz c kvs => cases ad
      | rd c kvs =>
        obtain ⟨vs, h1, h3, h4⟩ := k
        exact ⟨vs, h1, ex_rd eL h3, kvd_mono eL h4⟩
      | lst c ds => cases ad
      | dk c kvs => cases ad
      | tin c n => cases ad
/-- an expression that draws up to k times -/
def DR (K : PySem.W.Frag) (a : Addr) (te : TE) (n k : Nat) (Γ : Ctx) (P : PyData → Prop) : Prop := ∀ (H0 : Hp) (M L : List Addr) (σ : L2.St) (H : Hp), Env K H0 M L σ H (.tin a n :: Γ) → a ∈ M → ∀ Q : VK,
  (∀ d v H', P d → Env K H0 M L σ H' (.tin a (n + k) :: Γ) → Ex (er [a] H) (er [a] H') → Dp K (er L H') v d → Q v H') → te σ H Q
/-- what a draw leaves as it was, looked at without what may change -/
theorem Env.up (E : Env K H0 M L σ H (.tin a n :: Γ)) {H1 H2 : Hp} (e : Ex (er [a] H1) (er [a] H2)) : Ex (er L H1) (er L H2) := er_up (fun b hb => by rw [List.mem_singleton.mp hb]; exact (E.ent 0 (.tin a n) rfl).2.1) e
theorem dr_pure (h : EG K te (.tin a n :: Γ) d) : DR K a te n 0 Γ (fun x => x = d) := fun H0 M L σ H E ha Q q => h H0 M L σ H E _ fun v H1 e1 h1 => q d v H1 rfl (E.mono e1) (er_mono e1) h1
theorem DR.to {P P' : PyData → Prop} (h : DR K a te n k Γ P) (hP : ∀ d, P d → P' d) {k' : Nat} (hk : k ≤ k' := by omega) : DR K a te n k' Γ P' := fun H0 M L σ H E ha Q q => h H0 M L σ H E ha _ fun d v H1 p E1 e1 h1 => q d v H1 (hP d p) (E1.tinUp (by omega)) e1 h1
/-- the promise of a def that draws -/
def spTin (K : PySem.W.Frag) (k : Nat) (Pre : List PyData → Prop) (Post : List PyData → PyData → Prop) : Sp := fun vs H Q _ => ∃ (L : List Addr) (a : Addr) (n : Nat) (us : List V) (ds : List PyData), (∀ b ∈ L, ∃ o, H b = some o) ∧ a ∈ L ∧ vs = .ref a :: us ∧ DpAll K (er L H) us ds ∧ TinAt H a n ∧ n + k ≤ 100000 ∧ Pre ds ∧
  ∀ d v H', Post ds d → Ex (er [a] H) (er [a] H') → TinAt H' a (n + k) → Dp K (er L H') v d → Q v H'
theorem dr_call {Pre : List PyData → Prop} {Post : List PyData → PyData → Prop} {X : XK} {tl : TA} {ds : List PyData} (hl : AG K tl (.tin a n :: Γ) ds) (hn : n + k ≤ 100000) (pre : Pre ds) (hp : plain Γ = true := by rfl) : DR K a (tCall (spTin K k Pre Post) [] X (tCons (tVar 0) tl)) n k Γ (Post ds) := fun H0 M L σ H E ha Q q => by
  obtain ⟨h1, h2, _⟩ := E.ent 0 (.tin a n) rfl
  refine ⟨_, h1, hl H0 M L σ H E _ fun us H1 e1 hu => ?_⟩
  have E1 := E.mono e1
  obtain ⟨_, _, h4⟩ := E1.ent 0 (.tin a n) rfl
  refine ⟨L, a, n, us, ds, E1.live, h2, by rw [List.append_nil], hu, h4, hn, pre, fun d v H' hd e ht hv => ?_⟩
  exact q d v H' hd (E1.draw ha hp e ht) ((er_mono e1).trans e) hv
/-- at the start of such a def -/
theorem env_tin {L : List Addr} {N : List Str} {us : List V} {ds : List PyData} (hl : ∀ b ∈ L, ∃ o, H b = some o) (ha : a ∈ L) (hu : DpAll K (er L H) us ds) (ht : TinAt H a n) :
    Env K (er [a] H) [a] L (L2.start N (.ref a :: us)) H (.tin a n :: (ds.map Ent.dat ++ List.replicate (N.length - (ds.length + 1)) Ent.no)) := by
  have l := dps_len hu
  have s : L2.start N (.ref a :: us) = some (.ref a) :: L2.start (List.replicate (N.length - 1) "") us := by
    unfold L2.start
    rw [List.map_cons, List.length_cons, List.length_replicate, List.cons_append, Nat.sub_sub, Nat.add_comm 1 us.length]
  have E := env_start (K := K) (N := List.replicate (N.length - 1) ("" : Str)) hl hu
  refine ⟨?_, hl, fun b hb => ?_, Ex.refl _, fun i x hx => ?_⟩
  · rw [s, List.length_cons, List.length_cons, E.len, List.length_append, List.length_append, List.length_replicate, List.length_replicate, List.length_replicate]
    omega
  · rw [List.mem_singleton.mp hb]
    exact ha
  · rw [s]
    cases i with
    | zero =>
      cases Option.some.inj hx
      exact ⟨rfl, ha, ht⟩
    | succ i =>
      refine E.ent i x ?_
      rw [List.length_replicate, Nat.sub_sub, Nat.add_comm 1 ds.length]
      exact hx
/-! ### a list of this def's own, read and written -/
theorem eg_ixO {i : Nat} {ds : List PyData} {j : Int} (hi : Γ[i]? = some (.lst a ds)) (hj : EG K ti Γ (.int j)) (h : atI ds j = some d) : EG K (tOp (rIxL K) (tVar i) ti) Γ d := fun H0 M L σ H E Q q => by
  obtain ⟨vs, s1, s2, s3, s4⟩ := E.ent i _ hi
  refine ⟨_, s1, hj H0 M L σ H E _ fun y H1 e1 h1 => ?_⟩
  cases h1
  obtain ⟨v, v1, v2⟩ := atI_dp (dps_mono (er_mono (L := L) e1) _ _ s4) h
  exact ⟨a, vs, j, v, rfl, rfl, .inl (.inl (e1 _ _ s3)), v1, q v H1 e1 v2⟩
theorem dps_set : ∀ {vs : List V} {ds : List PyData} {j : Nat} {v : V} {d : PyData}, DpAll K H vs ds → Dp K H v d → DpAll K H (vs.set j v) (ds.set j d)
  | _, _, _, _, _, .nil, _ => .nil
  | _, _, 0, _, _, .cons _ t, h => .cons h t
  | _, _, j + 1, _, _, .cons h0 t, h => .cons h0 (dps_set t h)
/-- found[j] = e -/
theorem sl_setI {i : Nat} {ds : List PyData} {j : Nat} (E : Env K H0 M L σ H Γ) (hi : Γ[i]? = some (.lst a ds)) (ha : a ∈ M) (hv : EG K tv Γ d) (hj : EG K ti Γ (.int (j : Nat))) (hlt : j < ds.length) (kk : ∀ H', Env K H0 M L σ H' (Γ.set i (.lst a (ds.set j d))) → D.nx σ H')
    (al : ((Γ.set i .no).all fun e => e.addr.isNone) = true := by rfl) : tAsg tv (gSub (tVar i) ti rSetL) D σ H :=
  hv H0 M L σ H E _ fun v H1 e1 h1 => by
    have E1 := E.mono e1
    obtain ⟨vs, s1, s2, s3, s4⟩ := E1.ent i _ hi
    refine ⟨_, s1, hj H0 M L σ H1 E1 _ fun y H2 e2 h2 => ?_⟩
    cases h2
    have l := dps_len s4
    refine ⟨a, vs, _, j, rfl, rfl, e2 _ _ s3, ixN_nat (by omega), ?_⟩
    exact kk _ ((E1.mono e2).mut hi ha (alone_of al) (dps_set (dps_mono (er_mono e2) _ _ s4) (dp_mono (er_mono e2) _ _ h1)))
theorem sg_setI {i : Nat} {ds : List PyData} {j : Nat} (E : Env K H0 M L σ H Γ) (hi : Γ[i]? = some (.lst a ds)) (ha : a ∈ M) (hv : EG K tv Γ d) (hj : EG K ti Γ (.int (j : Nat))) (hlt : j < ds.length) (kk : ∀ H', Env K H0 M L σ H' (Γ.set i (.lst a (ds.set j d))) → tz D σ H')
    (al : ((Γ.set i .no).all fun e => e.addr.isNone) = true := by rfl) : tSeq (tAsg tv (gSub (tVar i) ti rSetL)) tz D σ H := sl_setI (D := { D with nx := tz D }) E hi ha hv hj hlt kk al
/-! ### loops with a state -/
theorem for_forX {α β : Type} {enc : α → PyData} {xs : List α} {g : TG} {tb : TS} {js : List Nat} {J : It} {H1 : Hp} {G : Hp → Prop} {Y : Nat → Hp → V → Hp → Prop} (Γi : Nat → β → Ctx) (Γb : Nat → α → β → Ctx) (I : Nat → β → Prop) (b0 : β) (i0 : I 0 b0)
    (E1 : Env K H0 M L σ H1 (Γi 0 b0)) (w : Walk J xs.length G Y) (hG : ∀ H', Ex (er L H1) (er L H') → G H')
    (hY : ∀ L' i x H2 H3, i < xs.length → Ex (er L H1) (er L' H2) → (∀ a ∈ L', ∃ o, H2 a = some o) → Y i H2 x H3 → Ex H2 H3 ∧ ∃ d, (xs.map enc)[i]? = some d ∧ Dp K (er L' H3) x d)
    (B : ∀ i x b, xs[i]? = some x → I i b → Bnd K g js (Γi i b) (enc x) (Γb i x b))
    (body : ∀ i x b B' σ' H' (N : L2.St → Hp → Prop), xs[i]? = some x → I i b → Ex H0 B' → Env K B' M L σ' H' (Γb i x b) → (∀ b' σ'' H'', I (i + 1) b' → Env K B' M L σ'' H'' (Γi (i + 1) b') → N σ'' H'') → tb { D with nx := N, ct := N, bk := D.nx } σ' H')
    (done : ∀ b σ' H', I xs.length b → Env K H0 M L σ' H' (Γi xs.length b) → D.nx σ' H') :
    ∃ W : Nat → Nat → L2.St → Hp → Prop, (∃ m, W 0 m σ H1) ∧ ∀ i m σ H, W i m σ H →
      (J.stop i H ∧ D.nx σ H) ∨ (J.go i H ∧ ∃ N : L2.St → Hp → Prop, (∀ σ' H', N σ' H' → ∃ m', m' < m ∧ W (i + 1) m' σ' H') ∧ ∀ x H', J.yld i H x H' → g x σ H' fun σ2 H2 => tb { D with nx := N, ct := N, bk := D.nx } σ2 H2) := by
  refine for_it w (fun i σ' H' => ∃ b, I i b ∧ Env K (er M H1) M L σ' H' (Γi i b)) ⟨b0, i0, E1.rebase⟩ (fun i σ' H' _ ⟨b, _, E'⟩ => hG H' (er_up E1.sub E'.base)) ?_ (fun σ' H' ⟨b, ib, E'⟩ => done b σ' H' ib (E'.unbase E1.base))
  rintro i x σ' H2 H3 hi ⟨b, ib, E2⟩ hy
  obtain ⟨e3, d, hd, hdp⟩ := hY L i x H2 H3 hi (er_up E1.sub E2.base) E2.live hy
  have hxi : xs[i]? = some xs[i] := List.getElem?_eq_getElem hi
  have ed : d = enc xs[i] := by
    rw [List.getElem?_map, hxi] at hd
    exact (Option.some.inj hd).symm
  subst ed
  exact (B i _ b hxi ib).run (er M H1) M L σ' H3 x (E2.mono e3) hdp _ fun σ4 E4 _ => body i _ b (er M H1) σ4 H3 _ hxi ib E1.base E4 fun b' _ _ ib' E5 => ⟨b', ib', E5⟩
theorem sg_forX {α β : Type} {enc : α → PyData} {xs : List α} {wi : TI} {g : TG} {tb : TS} {js : List Nat} (Γi : Nat → β → Ctx) (Γb : Nat → α → β → Ctx) (I : Nat → β → Prop) (b0 : β) (i0 : I 0 b0)
    (E : Env K H0 M L σ H (Γi 0 b0)) (S : Src K wi (Γi 0 b0) (xs.map enc)) (B : ∀ i x b, xs[i]? = some x → I i b → Bnd K g js (Γi i b) (enc x) (Γb i x b))
    (body : ∀ i x b B' σ' H' (N : L2.St → Hp → Prop), xs[i]? = some x → I i b → Ex H0 B' → Env K B' M L σ' H' (Γb i x b) → (∀ b' σ'' H'', I (i + 1) b' → Env K B' M L σ'' H'' (Γi (i + 1) b') → N σ'' H'') → tb { D with nx := N, ct := N, bk := tz D } σ' H')
    (done : ∀ b σ' H', I xs.length b → Env K H0 M L σ' H' (Γi xs.length b) → tz D σ' H') : tSeq (tFor wi g tb) tz D σ H := by
  refine S.run H0 M L σ H E _ fun J H1 G Y e1 w hG hY => ?_
  rw [List.length_map] at w hY
  exact for_forX (D := { D with nx := tz D }) Γi Γb I b0 i0 (E.mono e1) w hG hY B body done
/-- for x in range(e), e drawn -/
theorem sg_forR {β : Type} {g : TG} {tb : TS} {js : List Nat} {P : Nat → Prop} (hP : ∀ m, P m → m ≤ 1000) (E : Env K H0 M L σ H (.tin a n :: Γ)) (ha : a ∈ M) (hr : DR K a te n k Γ fun d => ∃ m, P m ∧ d = .int (m : Nat))
    (Γi : Nat → β → Ctx) (Γb : Nat → Nat → β → Ctx) (I : Nat → β → Prop) (b0 : β) (i0 : I 0 b0) (h0 : Γi 0 b0 = .tin a (n + k) :: Γ) (B : ∀ i x b, I i b → Bnd K g js (Γi i b) (.int (x : Nat)) (Γb i x b))
    (body : ∀ i x b B' σ' H' (N : L2.St → Hp → Prop), i < 1000 → I i b → (∃ m, P m ∧ i < m) → Ex H0 B' → Env K B' M L σ' H' (Γb i x b) → (∀ b' σ'' H'', I (i + 1) b' → Env K B' M L σ'' H'' (Γi (i + 1) b') → N σ'' H'') → tb { D with nx := N, ct := N, bk := tz D } σ' H')
    (done : ∀ m b σ' H', P m → I m b → Env K H0 M L σ' H' (Γi m b) → tz D σ' H') : tSeq (tFor (iRng1 (tCons te tNil)) g tb) tz D σ H := by
  refine hr H0 M L σ H E ha _ fun d v H1 ⟨m, hm, hd⟩ E1 e1 h1 => ?_
  have hle := hP m hm
  subst hd
  cases h1
  refine ⟨m, rfl, by omega, by omega, ?_⟩
  rw [← h0] at E1
  have w : Walk (Itr 0 ((m : Nat) : Int).toNat) (List.range m).length (fun _ => True) (YFn fun i => .int (0 + i)) := by rw [List.length_range]; exact walk_range
  refine for_forX (D := { D with nx := tz D }) (α := Nat) (enc := fun i => .int (i : Nat)) (xs := List.range m) Γi Γb I b0 i0 E1 w (fun _ _ => trivial) ?_ (fun i x b _ ib => B i x b ib) ?_ ?_
  · rintro L' i x H2 H3 hi _ _ ⟨rfl, rfl⟩
    rw [List.length_range] at hi
    refine ⟨Ex.refl _, .int (i : Nat), by rw [List.getElem?_map, List.getElem?_range hi]; rfl, ?_⟩
    show Dp K (er L' H3) (.int (0 + (i : Int))) _
    rw [Int.zero_add]
    exact .int _
  · intro i x b B' σ' H' N hx ib
    have hi := (List.getElem?_eq_some_iff.mp hx).1
    rw [List.length_range] at hi
    exact body i x b B' σ' H' N (by omega) ib ⟨m, hm, hi⟩
  · intro b σ' H' ib E'
    rw [List.length_range] at ib E'
    exact done m b σ' H' hm ib E'
end
end HR

set_option Elab.async false
set_option linter.all false
set_option maxRecDepth 100000
set_option maxHeartbeats 4000000
namespace HR
open PySem PySem.Spec PyProof.Rows L2 Evl
section
variable {K : PySem.W.Frag} {H0 H H' : Hp} {M L : List Addr} {σ : L2.St} {Γ : Ctx} {te ta tb tc ti tv : TE} {t : TT} {ts tz : TS} {D : Ends} {d : PyData} {a : Addr} {n k k1 k2 m : Nat} {tl : TA}
/-- what a binary operation gives of two data -/
def RR (K : PySem.W.Frag) (r : R2) (d1 d2 : PyData) (P : PyData → Prop) : Prop := ∀ (L : List Addr) (H : Hp) (x y : V), (∀ a ∈ L, ∃ o, H a = some o) → Dp K (er L H) x d1 → Dp K (er L H) y d2 → ∀ Q : VK, (∀ d v H', P d → Ex H H' → Dp K (er L H') v d → Q v H') → r x y H Q
theorem dr_op {r : R2} {P1 : PyData → Prop} {P2 : PyData → PyData → Prop} {P : PyData → Prop} (h1 : DR K a ta n k1 Γ P1) (h2 : ∀ d1, P1 d1 → DR K a tb (n + k1) k2 Γ (P2 d1)) (hr : ∀ d1 d2, P1 d1 → P2 d1 d2 → RR K r d1 d2 P) : DR K a (tOp r ta tb) n (k1 + k2) Γ P := fun H0 M L σ H E ha Q q =>
  h1 H0 M L σ H E ha _ fun d1 x H1 p1 E1 e1 v1 => h2 d1 p1 H0 M L σ H1 E1 ha _ fun d2 y H2 p2 E2 e2 v2 => by
    refine hr d1 d2 p1 p2 L H2 x y E2.live (dp_mono (E2.up e2) _ _ v1) v2 Q fun d v H3 p e3 v3 => ?_
    refine q d v H3 p ?_ ((e1.trans e2).trans (er_mono e3)) v3
    rw [← Nat.add_assoc]
    exact E2.mono e3
theorem rr_ixL {gs : List PyData} {r : Nat} (h : r < gs.length) : RR K (rIxL K) (.list gs) (.int (r : Nat)) (fun d => d ∈ gs) := fun L H x y _ h1 h2 Q q => by
  cases h1 with
  | @lst p xs _ hs hv =>
    cases h2
    have hg : gs[r]? = some gs[r] := List.getElem?_eq_getElem h
    obtain ⟨v, hv1, hv2⟩ := dps_get hv hg
    exact ⟨p, xs, _, v, rfl, rfl, ex_l (er_ex L H) hs, atI_nat hv1, q _ v H (List.getElem_mem h) (Ex.refl H) hv2⟩
theorem rr_eqI {i j : Int} : RR K rEq (.int i) (.int j) (fun d => d = .bool (decide (i = j))) := fun L H x y _ h1 h2 Q q => by
  cases h1
  cases h2
  refine ⟨rfl, q _ _ H rfl (Ex.refl H) ?_⟩
  rw [dec_int]
  exact .bl _
theorem rr_II {g : Int → Int → Int} {i j : Int} : RR K (rI0 fun a b => .int (g a b)) (.int i) (.int j) (fun d => d = .int (g i j)) := fun L H x y _ h1 h2 Q q => by
  cases h1
  cases h2
  exact ⟨i, j, rfl, rfl, q _ _ H rfl (Ex.refl H) (.int _)⟩
theorem rr_IB {g : Int → Int → Bool} {i j : Int} : RR K (rI0 fun a b => .bl (g a b)) (.int i) (.int j) (fun d => d = .bool (g i j)) := fun L H x y _ h1 h2 Q q => by
  cases h1
  cases h2
  exact ⟨i, j, rfl, rfl, q _ _ H rfl (Ex.refl H) (.bl _)⟩
theorem rr_catL {ds es : List PyData} (hz : ds.length + es.length ≤ 1000) : RR K (rCatS K) (.list ds) (.list es) (fun d => d = .list (ds ++ es)) := fun L H x y hl h1 h2 Q q => by
  cases h1 with
  | @lst p xs _ hs hv =>
    cases h2 with
    | @lst p2 ys _ hs2 hv2 =>
      refine ⟨p, p2, xs, ys, rfl, rfl, ex_l (er_ex L H) hs, ex_l (er_ex L H) hs2, Nat.le_trans (by rw [dps_len hv, dps_len hv2]; exact hz) (by decide), fun c hc => ?_⟩
      have nc : c ∉ L := fun m => by
        obtain ⟨o, e⟩ := hl c m
        rw [hc] at e
        cases e
      have e4 := Ex.new (o := .lst (xs ++ ys)) hc
      refine q _ _ _ rfl e4 (.lst (.inl (.inl ?_)) (dps_mono (er_mono e4) _ _ (dps_app hv hv2)))
      rw [er_out nc]
      exact upd_same
/-- arguments that draw -/
def DA (K : PySem.W.Frag) (a : Addr) (tl : TA) (n k : Nat) (Γ : Ctx) (P : List PyData → Prop) : Prop := ∀ (H0 : Hp) (M L : List Addr) (σ : L2.St) (H : Hp), Env K H0 M L σ H (.tin a n :: Γ) → a ∈ M → ∀ Q : List V → Hp → Prop,
  (∀ ds vs H', P ds → Env K H0 M L σ H' (.tin a (n + k) :: Γ) → Ex (er [a] H) (er [a] H') → DpAll K (er L H') vs ds → Q vs H') → tl σ H Q
theorem da_nil : DA K a tNil n 0 Γ (fun ds => ds = []) := fun H0 M L σ H E ha Q q => q [] [] H rfl E (Ex.refl _) .nil
theorem da_cons {P1 : PyData → Prop} {P2 : PyData → List PyData → Prop} (h1 : DR K a te n k1 Γ P1) (h2 : ∀ d, P1 d → DA K a tl (n + k1) k2 Γ (P2 d)) : DA K a (tCons te tl) n (k1 + k2) Γ (fun ds => ∃ d r, ds = d :: r ∧ P1 d ∧ P2 d r) := fun H0 M L σ H E ha Q q =>
  h1 H0 M L σ H E ha _ fun d1 x H1 p1 E1 e1 v1 => h2 d1 p1 H0 M L σ H1 E1 ha _ fun ds vs H2 p2 E2 e2 v2 => by
    refine q (d1 :: ds) (x :: vs) H2 ⟨d1, ds, rfl, p1, p2⟩ ?_ (e1.trans e2) (.cons (dp_mono (E2.up e2) _ _ v1) v2)
    rw [← Nat.add_assoc]
    exact E2
theorem DA.to {P P' : List PyData → Prop} (h : DA K a tl n k Γ P) (hP : ∀ d, P d → P' d) {k' : Nat} (hk : k ≤ k' := by omega) : DA K a tl n k' Γ P' := fun H0 M L σ H E ha Q q => h H0 M L σ H E ha _ fun d v H1 p E1 e1 h1 => q d v H1 (hP d p) (E1.tinUp (by omega)) e1 h1
theorem dr_tup {P : List PyData → Prop} (h : DA K a tl n k Γ P) (hz : ∀ ds, P ds → ds.length ≤ 1000) : DR K a (tTup tl) n k Γ (fun d => ∃ ds, P ds ∧ d = .tuple ds) := fun H0 M L σ H E ha Q q => h H0 M L σ H E ha _ fun ds vs H1 p E1 e1 v1 => by
  refine ⟨Nat.le_trans (by rw [dps_len v1]; exact hz ds p) (by decide), fun c hc => ?_⟩
  have nc := E1.fresh hc
  have e4 := Ex.new (o := .tup vs) hc
  refine q _ _ _ ⟨ds, p, rfl⟩ (E1.mono e4) (e1.trans (er_mono e4)) (.tup (.inl (.inl ?_)) (dps_mono (er_mono e4) _ _ v1))
  rw [er_out nc]
  exact upd_same
theorem dr_if {Pc P : PyData → Prop} (h : DR K a tc n k1 Γ Pc) (hb : ∀ d, Pc d → ∃ b : Bool, d = .bool b) (h1 : Pc (.bool true) → DR K a ta (n + k1) k2 Γ P) (h2 : Pc (.bool false) → DR K a tb (n + k1) k2 Γ P) : DR K a (tIf (tTest tc) ta tb) n (k1 + k2) Γ P := fun H0 M L σ H E ha Q q =>
  h H0 M L σ H E ha _ fun d x H1 p E1 e1 v1 => by
    obtain ⟨b, rfl⟩ := hb d p
    cases v1
    refine ⟨b, rfl, ?_⟩
    have go : ∀ {t : TE}, DR K a t (n + k1) k2 Γ P → t σ H1 Q := fun ht => ht H0 M L σ H1 E1 ha _ fun d v H2 p E2 e2 v2 => q d v H2 p (by rw [← Nat.add_assoc]; exact E2) (e1.trans e2) v2
    cases b with
    | true =>
      show (if true = true then ta σ H1 Q else tb σ H1 Q)
      rw [if_pos rfl]
      exact go (h1 p)
    | false =>
      show (if false = true then ta σ H1 Q else tb σ H1 Q)
      rw [if_neg Bool.false_ne_true]
      exact go (h2 p)
theorem sg_ifD {Pc : PyData → Prop} (E : Env K H0 M L σ H (.tin a n :: Γ)) (ha : a ∈ M) (h : DR K a tc n k Γ Pc) (hb : ∀ d, Pc d → ∃ b : Bool, d = .bool b) (h1 : Pc (.bool true) → ∀ H', Ex (er [a] H) (er [a] H') → Env K H0 M L σ H' (.tin a (n + k) :: Γ) → ts { D with nx := tz D } σ H') (h2 : Pc (.bool false) → ∀ H', Ex (er [a] H) (er [a] H') → Env K H0 M L σ H' (.tin a (n + k) :: Γ) → tz D σ H') : tSeq (tIfS (tTest tc) ts tNext) tz D σ H :=
  h H0 M L σ H E ha _ fun d x H1 p E1 e1 v1 => by
    obtain ⟨b, rfl⟩ := hb d p
    cases v1
    refine ⟨b, rfl, ?_⟩
    cases b with
    | true =>
      rw [if_pos rfl]
      exact h1 p H1 e1 E1
    | false =>
      rw [if_neg Bool.false_ne_true]
      exact h2 p H1 e1 E1
theorem sl_retD {P : PyData → Prop} (E : Env K H0 M L σ H (.tin a n :: Γ)) (ha : a ∈ M) (h : DR K a te n k Γ P) (q : ∀ d v H', P d → Env K H0 M L σ H' (.tin a (n + k) :: Γ) → Dp K (er L H') v d → D.rt v H') : tRet te D σ H :=
  h H0 M L σ H E ha _ fun d v H1 p E1 _ v1 => q d v H1 p E1 v1
theorem sg_asgD {i : Nat} {P : PyData → Prop} (E : Env K H0 M L σ H (.tin a n :: Γ)) (ha : a ∈ M) (h : DR K a te n k Γ P) (q : ∀ d σ' H', P d → Env K H0 M L σ' H' (.tin a (n + k) :: Γ.set i (.dat d)) → tz D σ' H') (hi : i < Γ.length := by exact Nat.le_of_ble_eq_true rfl) : tSeq (tAsg te (gName (i + 1))) tz D σ H :=
  h H0 M L σ H E ha _ fun d v H1 p E1 _ v1 => q d _ H1 p (E1.set (i := i + 1) (Nat.succ_lt_succ hi) v1)
theorem sl_asgD {i : Nat} {P : PyData → Prop} (E : Env K H0 M L σ H (.tin a n :: Γ)) (ha : a ∈ M) (h : DR K a te n k Γ P) (q : ∀ d σ' H', P d → Env K H0 M L σ' H' (.tin a (n + k) :: Γ.set i (.dat d)) → D.nx σ' H') (hi : i < Γ.length := by exact Nat.le_of_ble_eq_true rfl) : tAsg te (gName (i + 1)) D σ H :=
  h H0 M L σ H E ha _ fun d v H1 p E1 _ v1 => q d _ H1 p (E1.set (i := i + 1) (Nat.succ_lt_succ hi) v1)
theorem Env.tinAt (E : Env K H0 M L σ H (.tin a n :: Γ)) : TinAt H a n := (E.ent 0 (.tin a n) rfl).2.2
end
end HR

set_option Elab.async false
set_option linter.all false
set_option maxRecDepth 100000
set_option maxHeartbeats 4000000
namespace HR
open PySem PySem.Spec PyProof.Rows L2 Evl
section
variable {K : PySem.W.Frag} {H0 H H' : Hp} {M L : List Addr} {σ : L2.St} {Γ : Ctx} {a : Addr} {n k m : Nat}
theorem Env.tinL (E : Env K H0 M L σ H (.tin a n :: Γ)) : ∃ x y c : Int, 0 ≤ x ∧ 0 ≤ y ∧ y < 4611686018427387904 ∧ 0 ≤ c ∧ c ≤ n ∧ Env K H0 M L σ H (.lst a [.int x, .int y, .int c] :: Γ) := by
  obtain ⟨h1, h2, x, y, c, h3, h4, h5, h6, h7, h8⟩ := E.ent 0 (.tin a n) rfl
  refine ⟨x, y, c, h4, h5, h6, h7, h8, E.len, E.live, E.sub, E.base, fun i e he => ?_⟩
  cases i with
  | zero =>
    cases Option.some.inj he
    exact ⟨_, h1, h2, h3, .cons (.int x) (.cons (.int y) (.cons (.int c) .nil))⟩
  | succ i => exact E.ent (i + 1) e he
theorem Env.tinA {x y c : Int} (E : Env K H0 M L σ H (.lst a [.int x, .int y, .int c] :: Γ)) (h1 : 0 ≤ x) (h2 : 0 ≤ y) (h3 : y < 4611686018427387904) (h4 : 0 ≤ c) (h5 : c ≤ m) : TinAt H a m := by
  obtain ⟨vs, s1, s2, s3, s4⟩ := E.ent 0 _ rfl
  refine ⟨x, y, c, ?_, h1, h2, h3, h4, h5⟩
  cases s4 with
  | cons p r =>
    cases r with
    | cons p2 r =>
      cases r with
      | cons p3 r =>
        cases r
        cases p
        cases p2
        cases p3
        exact s3
end
/-- a number as a natural one -/
theorem nn_int {z : Int} {b : Nat} (h1 : 0 ≤ z) (h2 : z < b) : ∃ r : Nat, r < b ∧ z = (r : Nat) := ⟨z.toNat, by omega, by omega⟩
section
variable {P : Program} {w : World} {K : PySem.W.Frag} {mg : Str → Option Value} {base : Heap}
theorem scLawTake : FnScope ["_law_tin", "_law_below_so", "_law_once_so", "_law_wide_so", "_law_twice_so", "_law_drawn"] ["_law_tin", "_law_below_so"] (defScope sLawTake) := ⟨rfl, rfl, rfl, by decide +kernel, rfl, by decide +kernel, by decide +kernel⟩
def PreTake (ds : List PyData) : Prop := ∃ b : Nat, ds = [.int (b : Nat)] ∧ 0 < b ∧ b ≤ 1000
def PostTake (ds : List PyData) (d : PyData) : Prop := ∃ b r : Nat, ds = [.int (b : Nat)] ∧ r < b ∧ d = .int (r : Nat)
theorem ok__law_take (T : Top K mg) : Ok P w K mg base 1 "_law_take" ["_law_tin", "_law_below_so"] (spTin K 1 PreTake PostTake) := by
  refine ok_def T 27 27 scLawTake (fun vs H Q E h => by obtain ⟨L, a, n, us, ds, _, _, rfl, hu, _, _, ⟨b, rfl, _⟩, _⟩ := h; rw [List.length_cons, dps_len hu]; rfl) (fun _ _ _ _ _ _ us hl => match us, hl with | [_, _], _ => rfl) (fun cdv A outer s H vs Q E hr h => ?_)
  obtain ⟨L, a, n, us, ds, hl, ha, rfl, hu, ht, hn, ⟨b, rfl, hb, hb2⟩, q⟩ := h
  refine ⟨_, pss_cons (ps_if (pt_cmpR op_gt (pe_ix (r := rIxL K) ix_list (pv 0) pe_int (fun _ _ => rfl)) pe_int (nomark _)) (pss_cons (ps_set (i := 5) scLawTake.nd rfl (.inl rfl) (pe_op op_mod (pe_callTy call_intX (by rfl) T.intN (by decide +kernel) (pa_cons (pe_ix (r := rIxL K) ix_list (pv 0) pe_int (fun _ _ => rfl)) pa_nil)) (pv 1)))
      (pss_cons (ps_asg (pe_op op_fdiv (pe_ix (r := rIxL K) ix_list (pv 0) pe_int (fun _ _ => rfl)) (pv 1)) (pg_sub (pv 0) pe_int set_list))
      (pss_one (ps_ret (pv 5))))) pss_nil)
      (pss_cons (ps_asg (pe_op op_add (pe_ix (r := rIxL K) ix_list (pv 0) pe_int (fun _ _ => rfl)) pe_int) (pg_sub (pv 0) pe_int set_list))
      (pss_cons (ps_set (i := 2) scLawTake.nd rfl (.inl rfl) (pe_op op_mod (pe_callTy call_intX (by rfl) T.intN (by decide +kernel) (pa_cons (pe_op op_mul (pe_op op_add (pe_ix (r := rIxL K) ix_list (pv 0) pe_int (fun _ _ => rfl)) (pe_op op_mul pe_int (pe_ix (r := rIxL K) ix_list (pv 0) pe_int (fun _ _ => rfl)))) (pe_op op_add pe_int (pe_ix (r := rIxL K) ix_list (pv 0) pe_int (fun _ _ => rfl)))) pa_nil)) pe_int))
      (pss_cons (ps_set (i := 3) scLawTake.nd rfl (.inl rfl) (pe_op op_add (pe_op op_mod (pe_callTy call_intX (by rfl) T.intN (by decide +kernel) (pa_cons (pv 2) pa_nil)) pe_int) pe_int))
      (pss_cons (ps_set (i := 4) scLawTake.nd rfl (.inl rfl) (pe_op op_mod (pe_callTy call_intX (by rfl) T.intN (by decide +kernel) (pa_cons (pe_op op_mul (pe_op op_add (pe_op op_add (pv 2) (pe_ix (r := rIxL K) ix_list (pv 0) pe_int (fun _ _ => rfl))) (pe_op op_fdiv (pe_ix (r := rIxL K) ix_list (pv 0) pe_int (fun _ _ => rfl)) pe_int)) (pv 3)) pa_nil)) pe_int))
      (pss_one (ps_ret (pe_op op_mod (pe_callTy call_intX (by rfl) T.intN (by decide +kernel) (pa_cons (pe_op op_fdiv (pe_op op_mod (pe_callTy call_intX (by rfl) T.intN (by decide +kernel) (pa_cons (pe_op op_add (pe_op op_mul (pv 4) pe_int) (pv 2)) pa_nil)) pe_int) pe_int) pa_nil)) (pv 1)))))))), ?_⟩
  obtain ⟨x, y, c, hx, hy, hy2, hc, hc2, E0⟩ := (env_tin (N := ["_law_tin", "_law_below_so", "_law_once_so", "_law_wide_so", "_law_twice_so", "_law_drawn"]) hl ha hu ht).tinL
  have fin : ∀ {z : Int} {σ' : L2.St} {H' : Hp} {x' y' c' : Int} {Γ' : Ctx} {v : V}, Env K (er [a] H) [a] L σ' H' (.lst a [.int x', .int y', .int c'] :: Γ') → 0 ≤ x' → 0 ≤ y' → y' < 4611686018427387904 → 0 ≤ c' → c' ≤ ((n + 1 : Nat) : Int) → 0 ≤ z → z < b → Dp K (er L H') v (.int z) → Q v H' := by
    intro z σ' H' x' y' c' Γ' v E' g1 g2 g3 g4 g5 z1 z2 hv
    obtain ⟨r, r1, rfl⟩ := nn_int z1 z2
    exact q _ v H' ⟨b, r, rfl, r1, rfl⟩ E'.base (E'.tinA g1 g2 g3 g4 g5) hv
  have hb3 : (0 : Int) < (b : Nat) := by omega
  refine sg_if E0 (tg_T (eg_IB (eg_ixO rfl eg_int rfl) eg_int)) (fun _ H1 e1 E1 => ?_) fun _ H1 e1 E1 => ?_
  · refine sg_asg E1 (eg_IC (eg_int1 (eg_ixO rfl eg_int rfl)) (eg_var rfl) hb3) fun σ2 H2 e2 E2 => ?_
    refine sg_setI (j := 0) E2 rfl List.mem_cons_self (eg_IC (eg_ixO rfl eg_int rfl) (eg_var rfl) ⟨hb3, by omega⟩) eg_int (by simp) fun H3 E3 => ?_
    refine sl_ret E3 (eg_var rfl) fun v H4 e4 E4 hv => fin E4 (Int.ediv_nonneg hx (by omega)) hy hy2 hc (by omega) (Int.emod_nonneg _ (by omega)) (Int.emod_lt_of_pos _ hb3) hv
  · refine sg_setI (j := 2) E1 rfl List.mem_cons_self (eg_II (eg_ixO rfl eg_int rfl) eg_int) eg_int (by simp) fun H2 E2 => ?_
    refine sg_asg E2 (eg_IC (eg_int1 (eg_IC (eg_II (eg_ixO rfl eg_int rfl) (eg_IC eg_int (eg_ixO rfl eg_int rfl) (.inl ⟨by decide, by decide⟩))) (eg_II eg_int (eg_ixO rfl eg_int rfl)) (.inr ⟨by omega, by omega⟩))) eg_int (by decide)) fun σ3 H3 e3 E3 => ?_
    refine sg_asg E3 (eg_II (eg_IC (eg_int1 (eg_var rfl)) eg_int (by decide)) eg_int) fun σ4 H4 e4 E4 => ?_
    refine sg_asg E4 (eg_IC (eg_int1 (eg_IC (eg_II (eg_II (eg_var rfl) (eg_ixO rfl eg_int rfl)) (eg_IC (eg_ixO rfl eg_int rfl) eg_int ⟨by decide, by decide⟩)) (eg_var rfl) (.inr ⟨by omega, by omega⟩))) eg_int (by decide)) fun σ5 H5 e5 E5 => ?_
    refine sl_ret E5 (eg_IC (eg_int1 (eg_IC (eg_IC (eg_int1 (eg_II (eg_IC (eg_var rfl) eg_int (.inr ⟨by decide, by decide⟩)) (eg_var rfl))) eg_int (by decide)) eg_int ⟨by decide, by decide⟩)) (eg_var rfl) hb3) fun v H6 e6 E6 hv => fin E6 hx hy hy2 (by omega) (by omega) (Int.emod_nonneg _ (by omega)) (Int.emod_lt_of_pos _ hb3) hv
end
end HR

set_option Elab.async false
set_option linter.all false
set_option maxRecDepth 100000
set_option maxHeartbeats 4000000
namespace HR
open PySem PySem.Spec PyProof.Rows L2 Evl
/-- a drawn single -/
def singOk (r : Rec) : Prop := r.isBlank = false ∧ recOk r = true
def PostSingle (_ : List PyData) (d : PyData) : Prop := ∃ r, singOk r ∧ d = encS r
def PostAct (_ : List PyData) (d : PyData) : Prop := (∃ r, singOk r ∧ d = encS r) ∨ ∃ rs : List Rec, 2 ≤ rs.length ∧ rs.length ≤ 4 ∧ (∀ r ∈ rs, singOk r) ∧ d = .tuple [.str "lot", .tuple (rs.map encS)]
def keysD : List PyData := [.str "a", .str "b", .str "c", .str "d"]
def wordsD : List PyData := [.str "x", .str "y", .str "z", .str "w7"]
theorem keys_ok : ∀ d ∈ keysD, ∃ k, d = .str k ∧ wordOk k = true := fun d hd => by
  simp only [keysD, List.mem_cons, List.not_mem_nil, or_false] at hd
  rcases hd with rfl | rfl | rfl | rfl
  all_goals exact ⟨_, rfl, by decide +kernel⟩
theorem words_ok : ∀ d ∈ wordsD, ∃ k, d = .str k ∧ wordOk k = true := fun d hd => by
  simp only [wordsD, List.mem_cons, List.not_mem_nil, or_false] at hd
  rcases hd with rfl | rfl | rfl | rfl
  all_goals exact ⟨_, rfl, by decide +kernel⟩
section
variable {P : Program} {w : World} {K : PySem.W.Frag} {mg : Str → Option Value} {base : Heap}
theorem scLawOf : FnScope ["_law_tin", "_law_goods_so"] ["_law_tin", "_law_goods_so"] (defScope sLawOf) := ⟨rfl, rfl, rfl, by decide +kernel, rfl, by decide +kernel, by decide +kernel⟩
def PreOf (ds : List PyData) : Prop := ∃ gs : List PyData, ds = [.list gs] ∧ 0 < gs.length ∧ gs.length ≤ 1000
def PostOf (ds : List PyData) (d : PyData) : Prop := ∃ gs : List PyData, ds = [.list gs] ∧ d ∈ gs
theorem ok__law_of (T : Top K mg) : Ok P w K mg base 2 "_law_of" ["_law_tin", "_law_goods_so"] (spTin K 1 PreOf PostOf) := by
  have O__law_take : Ok P w K mg base 1 _ _ _ := ok__law_take T
  refine ok_def T 29 29 scLawOf (fun vs H Q E h => by obtain ⟨L, a, n, us, ds, _, _, rfl, hu, _, _, ⟨b, rfl, _⟩, _⟩ := h; rw [List.length_cons, dps_len hu]; rfl) (fun _ _ _ _ _ _ us hl => match us, hl with | [_, _], _ => rfl) (fun cdv A outer s H vs Q E hr h => ?_)
  obtain ⟨L, a, n, us, ds, hl, ha, rfl, hu, ht, hn, ⟨gs, rfl, hb, hb2⟩, q⟩ := h
  refine ⟨_, pss_one (ps_ret (pe_ix (r := rIxL K) ix_list (pv 1) (pe_cal O__law_take hr (pa_cons (pv 0) (pa_cons (pe_callB (r := rLenX K) call_lenX (by rfl) T.lenN (by decide +kernel) (pa_cons (pv 1) pa_nil)) pa_nil))) (fun _ _ => rfl))), ?_⟩
  have E0 := env_tin (N := ["_law_tin", "_law_goods_so"]) hl ha hu ht
  refine sl_retD E0 List.mem_cons_self (dr_op (dr_pure (eg_var rfl)) (fun d1 e => dr_call (ag_cons (eg_lenXL (eg_var rfl)) ag_nil) hn ⟨gs.length, rfl, hb, hb2⟩) fun d1 d2 e1 e2 => ?rr) fun d v H1 p E1 h1 => q d v H1 ⟨gs, rfl, p⟩ E1.base E1.tinAt h1
  case rr =>
    obtain ⟨b, r, e3, hr, rfl⟩ := e2
    cases e1
    injection e3 with e3
    injection e3 with e3
    exact rr_ixL (by omega)
theorem scLawKeys : FnScope [] [] (defScope sLawKeys) := ⟨rfl, rfl, rfl, by decide +kernel, rfl, by decide +kernel, by decide +kernel⟩
def PKeys (ds : List PyData) (d : PyData) : Prop := ds = [] ∧ d = .list keysD
theorem ok__law_keys (T : Top K mg) : Ok P w K mg base 1 "_law_keys" [] (spD K PKeys) := by
  refine ok_pure T 33 scLawKeys (fun ds d h => by obtain ⟨rfl, _⟩ := h; rfl) (fun _ _ _ _ _ _ us hl => match us, hl with | [], _ => rfl) (fun cdv A outer s H E hr => ⟨_, pss_one (ps_ret (pe_lst (pa_cons pe_str (pa_cons pe_str (pa_cons pe_str (pa_cons pe_str pa_nil)))))), fun ds d h => ?_⟩)
  obtain ⟨rfl, rfl⟩ := h
  exact bg_ret (eg_lst (ag_cons eg_str (ag_cons eg_str (ag_cons eg_str (ag_cons eg_str ag_nil)))))
theorem scLawBlank : FnScope [] [] (defScope sLawBlank) := ⟨rfl, rfl, rfl, by decide +kernel, rfl, by decide +kernel, by decide +kernel⟩
def PBlank (ds : List PyData) (d : PyData) : Prop := ds = [] ∧ d = enc .blank
theorem ok__law_blank (T : Top K mg) : Ok P w K mg base 1 "_law_blank" [] (spD K PBlank) := by
  refine ok_pure T 32 scLawBlank (fun ds d h => by obtain ⟨rfl, _⟩ := h; rfl) (fun _ _ _ _ _ _ us hl => match us, hl with | [], _ => rfl) (fun cdv A outer s H E hr => ⟨_, pss_one (ps_ret (pe_tup (pa_cons pe_str pa_nil))), fun ds d h => ?_⟩)
  obtain ⟨rfl, rfl⟩ := h
  exact bg_ret (eg_tup (ag_cons eg_str ag_nil))
theorem scLawSingle : FnScope ["_law_tin"] ["_law_tin"] (defScope sLawSingle) := ⟨rfl, rfl, rfl, by decide +kernel, rfl, by decide +kernel, by decide +kernel⟩
theorem ok__law_single (T : Top K mg) : Ok P w K mg base 3 "_law_single" ["_law_tin"] (spTin K 3 (fun ds => ds = []) PostSingle) := by
  have O__law_take : Ok P w K mg base 2 _ _ _ := (ok__law_take T).mono (by decide)
  have O__law_of : Ok P w K mg base 2 _ _ _ := ok__law_of T
  have O__law_keys : Ok P w K mg base 2 _ _ _ := (ok__law_keys T).mono (by decide)
  refine ok_def T 34 34 scLawSingle (fun vs H Q E h => by obtain ⟨L, a, n, us, ds, _, _, rfl, hu, _, _, rfl, _⟩ := h; rw [List.length_cons, dps_len hu]; rfl) (fun _ _ _ _ _ _ us hl => match us, hl with | [_], _ => rfl) (fun cdv A outer s H vs Q E hr h => ?_)
  obtain ⟨L, a, n, us, ds, hl, ha, rfl, hu, ht, hn, rfl, q⟩ := h
  refine ⟨_, pss_cons (ps_if (pt_cmpR op_eq (pe_cal O__law_take hr (pa_cons (pv 0) (pa_cons pe_int pa_nil))) pe_int (nomark _)) (pss_one (ps_ret (pe_tup (pa_cons pe_str (pa_cons (pe_cal O__law_of hr (pa_cons (pv 0) (pa_cons (pe_cal0 O__law_keys hr) pa_nil))) pa_nil))))) pss_nil)
      (pss_one (ps_ret (pe_tup (pa_cons pe_str (pa_cons (pe_cal O__law_of hr (pa_cons (pv 0) (pa_cons (pe_cal0 O__law_keys hr) pa_nil))) (pa_cons (pe_cal O__law_of hr (pa_cons (pv 0) (pa_cons (pe_lst (pa_cons pe_str (pa_cons pe_str (pa_cons pe_str (pa_cons pe_str pa_nil))))) pa_nil))) pa_nil)))))), ?_⟩
  have E0 := env_tin (N := ["_law_tin"]) hl ha hu ht
  have fin : ∀ {σ' : L2.St} {H' : Hp} {v : V} {m : Nat} {r : Rec} {Γ' : Ctx}, Env K (er [a] H) [a] L σ' H' (.tin a m :: Γ') → m ≤ n + 3 → singOk r → Dp K (er L H') v (encS r) → Q v H' := fun E' hm hs hv => q _ _ _ ⟨_, hs, rfl⟩ E'.base (E'.tinAt.up hm) hv
  refine sg_ifD (n := n) (Γ := []) (Pc := fun d => ∃ b : Bool, d = .bool b) E0 List.mem_cons_self (dr_op (k2 := 0) (dr_call (Pre := PreTake) (Post := PostTake) (ag_cons eg_int ag_nil) (by omega) ⟨3, rfl, by decide, by decide⟩) (fun d1 _ => dr_pure eg_int) fun d1 d2 e1 e2 => ?rr) (fun _ h => h) (fun _ H1 _ E1 => ?_) fun _ H1 _ E1 => ?_
  case rr =>
    obtain ⟨b, r, _, _, rfl⟩ := e1
    cases e2
    intro L H x y hl h1 h2 Q q
    exact rr_eqI L H x y hl h1 h2 Q fun d v H' e => q d v H' ⟨_, e⟩
  · refine sl_retD E1 List.mem_cons_self (dr_tup (da_cons (dr_pure eg_str) fun d1 e1 => da_cons (dr_call (Pre := PreOf) (Post := PostOf) (ag_cons (eg_call (P := PKeys) ag_nil ⟨rfl, rfl⟩) ag_nil) (by omega) ⟨keysD, rfl, by decide, by decide⟩) fun d2 e2 => da_nil) ?len) fun d v H2 p E2 h2 => ?_
    case len =>
      rintro _ ⟨_, _, rfl, _, _, _, rfl, _, rfl⟩
      simp
    · obtain ⟨_, ⟨_, _, rfl, rfl, d2, _, rfl, ⟨gs, e2, hm⟩, rfl⟩, rfl⟩ := p
      injection e2 with e2
      injection e2 with e2
      subst e2
      obtain ⟨k, rfl, hk⟩ := keys_ok d2 hm
      exact fin (r := .drop k 0 0) E2 (by omega) ⟨rfl, hk⟩ h2
  · refine sl_retD E1 List.mem_cons_self (dr_tup (da_cons (dr_pure eg_str) fun d1 e1 => da_cons (dr_call (Pre := PreOf) (Post := PostOf) (ag_cons (eg_call (P := PKeys) ag_nil ⟨rfl, rfl⟩) ag_nil) (by omega) ⟨keysD, rfl, by decide, by decide⟩) fun d2 e2 =>
      da_cons (dr_call (Pre := PreOf) (Post := PostOf) (ag_cons (eg_lst (ag_cons eg_str (ag_cons eg_str (ag_cons eg_str (ag_cons eg_str ag_nil))))) ag_nil) (by omega) ⟨wordsD, rfl, by decide, by decide⟩) fun d3 e3 => da_nil) ?len) fun d v H2 p E2 h2 => ?_
    case len =>
      rintro _ ⟨_, _, rfl, _, _, _, rfl, _, _, _, rfl, _, rfl⟩
      simp
    · obtain ⟨_, ⟨_, _, rfl, rfl, d2, _, rfl, ⟨gs, e2, hm⟩, d3, _, rfl, ⟨gs', e3, hm'⟩, rfl⟩, rfl⟩ := p
      injection e2 with e2
      injection e2 with e2
      subst e2
      injection e3 with e3
      injection e3 with e3
      subst e3
      obtain ⟨k, rfl, hk⟩ := keys_ok d2 hm
      obtain ⟨z, rfl, hz⟩ := words_ok d3 hm'
      exact fin (r := .put k z 0 0) E2 (by omega) ⟨rfl, by show (wordOk k && wordOk z) = true; rw [hk, hz]; rfl⟩ h2
end
end HR

set_option Elab.async false
set_option linter.all false
set_option maxRecDepth 100000
set_option maxHeartbeats 4000000
namespace HR
open PySem PySem.Spec PyProof.Rows L2 Evl
section
variable {K : PySem.W.Frag} {H0 H H1 H' : Hp} {M L : List Addr} {σ : L2.St} {Γ : Ctx} {te em ta tb tc ti tv : TE} {t : TT} {ts tz : TS} {D : Ends} {d : PyData} {a p : Addr} {n k k0 k1 k2 m : Nat} {tl : TA}
/-- an object that no slot speaks of becomes another one -/
theorem Env.poke {o : HO} (E : Env K H0 M L σ H (.tin a n :: Γ)) (hm : p ∈ M) (hne : p ≠ a) (hp : plain Γ = true) : Env K H0 M L σ (upd H p o) (.tin a n :: Γ) := by
  have pL := E.sub p hm
  have e1 : er L (upd H p o) = er L H := er_upd pL
  have e0 : er M (upd H p o) = er M H := er_upd hm
  refine ⟨E.len, fun c hc => ?_, E.sub, by rw [e0]; exact E.base, fun i x hx => ?_⟩
  · by_cases q : c = p
    · rw [q]
      exact ⟨_, upd_same⟩
    · obtain ⟨o, ho⟩ := E.live c hc
      exact ⟨o, by rw [upd_ne q]; exact ho⟩
  · cases i with
    | zero =>
      cases Option.some.inj hx
      obtain ⟨h1, h2, x, y, c, h3, h4⟩ := E.ent 0 (.tin a n) rfl
      exact ⟨h1, h2, x, y, c, by rw [upd_ne (Ne.symm hne)]; exact h3, h4⟩
    | succ i =>
      have k := E.ent (i + 1) x hx
      have ad : x.addr = none := Option.isNone_iff_eq_none.mp (List.all_eq_true.mp hp x (List.mem_of_getElem? (i := i) hx))
      cases x with
      | no => trivial
      | dat d =>
        obtain ⟨v, h1, h2⟩ := k
        exact ⟨v, h1, by rw [e1]; exact h2⟩
      | fn f => exact k
      | fz c kvs => cases ad
      | rd c kvs =>
        obtain ⟨vs, h1, h3, h4⟩ := k
        exact ⟨vs, h1, by rw [e1]; exact h3, by rw [e1]; exact h4⟩
      | lst c ds => cases ad
      | dk c kvs => cases ad
      | tin c n => cases ad
theorem Env.less (E : Env K H0 (p :: M) (p :: L) σ H (.tin a n :: Γ)) (hs : ∀ c ∈ M, c ∈ L) (ha : a ∈ L) (hp : plain Γ = true) : Env K H0 M L σ H (.tin a n :: Γ) := by
  have eL : Ex (er (p :: L) H) (er L H) := er_less fun c h => List.mem_cons_of_mem _ h
  refine ⟨E.len, fun c hc => E.live c (List.mem_cons_of_mem _ hc), hs, E.base.trans (er_less fun c h => List.mem_cons_of_mem _ h), fun i x hx => ?_⟩
  cases i with
  | zero =>
    cases Option.some.inj hx
    obtain ⟨h1, _, h3⟩ := E.ent 0 (.tin a n) rfl
    exact ⟨h1, ha, h3⟩
  | succ i =>
    have k := E.ent (i + 1) x hx
    have ad : x.addr = none := Option.isNone_iff_eq_none.mp (List.all_eq_true.mp hp x (List.mem_of_getElem? (i := i) hx))
    cases x with
    | no => trivial
    | dat d =>
      obtain ⟨v, h1, h2⟩ := k
      exact ⟨v, h1, dp_mono eL _ _ h2⟩
    | fn f => exact k
    | fz c kvs => cases ad
    | rd c kvs =>
      obtain ⟨vs, h1, h3, h4⟩ := k
      exact ⟨vs, h1, ex_rd eL h3, kvd_mono eL h4⟩
    | lst c ds => cases ad
    | dk c kvs => cases ad
    | tin c n => cases ad
theorem er_poke {M : List Addr} {o : HO} (e : Ex (er M H1) (er M H)) (h : H1 p = none) : Ex (er M H1) (er M (upd H p o)) := fun c x hx => by
  obtain ⟨m, h2⟩ := er_some hx
  have := (er_some (e c x hx)).2
  rw [er_out m, upd_ne (fun q => by rw [q, h] at h2; cases h2)]
  exact this
/-- [e for x in range(m)], both drawn -/
theorem dr_lcR {g : TG} {vs js : List Nat} {Pm : Nat → Prop} {P : PyData → Prop} {ke mm : Nat} {Γw : Ctx} {Γb : Nat → Ctx} (hP : ∀ m, Pm m → m ≤ mm) (hmm : mm ≤ 1000) (hm : DR K a em n k0 Γ fun d => ∃ m, Pm m ∧ d = .int (m : Nat))
    (hw : ∀ n, wipeC (.tin a n :: Γ) vs = .tin a n :: Γw) (B : ∀ n i, Bnd K g js (.tin a n :: Γw) (.int (i : Nat)) (.tin a n :: Γb i)) (he : ∀ n' i, n' + ke ≤ n + k0 + mm * ke → DR K a te n' ke (Γb i) P) (hp : plain Γ = true) (hjs : ∀ j ∈ js, j ∈ vs) :
    DR K a (tLc (iRng1 (tCons em tNil)) g tYes te vs) n (k0 + mm * ke) Γ fun d => ∃ ds : List PyData, Pm ds.length ∧ (∀ d ∈ ds, P d) ∧ d = .list ds := fun H0 M L σ H E ha Q q => by
  refine hm H0 M L σ H E ha _ fun d v H1 ⟨m, hm1, hd⟩ E1 e1 h1 => ?_
  have hle := hP m hm1
  subst hd
  cases h1
  refine ⟨m, rfl, by omega, by omega, fun p hD => ?_⟩
  have nD := E1.fresh hD
  have aL := E1.sub a ha
  have hne : p ≠ a := fun q => nD (q ▸ aL)
  have w : Walk (Itr 0 ((m : Nat) : Int).toNat) m (fun _ => True) (YFn fun i => .int (0 + i)) := walk_range
  refine lc_it w (fun i H' => ∃ ds acc, ds.length = i ∧ (∀ d ∈ ds, P d) ∧ H' p = some (.lst acc) ∧ DpAll K (er (p :: L) H') acc ds ∧ Env K H0 (p :: M) (p :: L) σ H' (.tin a (n + k0 + i * ke) :: Γ) ∧ Ex (er [a] H1) (er [a] H')) ⟨[], [], rfl, (fun d hd => by cases hd), upd_same, .nil, ?_, er_poke (Ex.refl _) hD⟩ (fun _ _ _ _ => trivial) ?_ ?_
  · rw [Nat.zero_mul]
    exact E1.more hD
  · rintro i x H2 H3 hi ⟨ds, acc, hl, hds, hacc, hdp, E2, x1⟩ ⟨rfl, rfl⟩
    have E3 := E2.wipe vs
    rw [hw] at E3
    have hx : Dp K (er (p :: L) H3) (.int (0 + (i : Int))) (.int (i : Nat)) := by
      rw [Int.zero_add]
      exact .int _
    refine (B _ i).run H0 (p :: M) (p :: L) _ H3 _ E3 hx _ fun σ2 E4 hw2 => ⟨by rw [hw2 vs hjs, wipe_wipe], ?_⟩
    unfold tYes
    dsimp only
    rw [if_pos rfl]
    have hb : i * ke + ke ≤ mm * ke := by
      have := Nat.mul_le_mul_right ke (show i + 1 ≤ mm by omega)
      rw [Nat.add_mul, Nat.one_mul] at this
      exact this
    refine he _ i (by omega) H0 (p :: M) (p :: L) σ2 H3 E4 (List.mem_cons_of_mem _ ha) _ fun d y H4 pd E5 e5 hy => ?_
    have hp4 : H4 p = some (.lst acc) := (er_some (e5 p _ (by rw [er_out (by simpa using hne)]; exact hacc))).2
    have el := dps_len hdp
    have E6 := E2.draw (List.mem_cons_of_mem _ ha) hp e5 E5.tinAt
    refine ⟨acc, hp4, sz_lt (by omega), ds ++ [d], acc ++ [y], by rw [List.length_append, hl]; rfl, fun z hz => ?_, upd_same, ?_, ?_, er_poke (x1.trans e5) hD⟩
    · rcases List.mem_append.mp hz with h | h
      · exact hds z h
      · rw [List.mem_singleton.mp h]
        exact pd
    · rw [er_upd List.mem_cons_self]
      exact dps_app (dps_mono (E2.up e5) _ _ hdp) (.cons hy .nil)
    · have := E6.poke (o := .lst (acc ++ [y])) List.mem_cons_self hne hp
      rw [show n + k0 + (i + 1) * ke = n + k0 + i * ke + ke by rw [Nat.add_mul, Nat.one_mul, ← Nat.add_assoc (n + k0)]]
      exact this
  · rintro H2 ⟨ds, acc, hl, hds, hacc, hdp, E2, x1⟩
    have hb := Nat.mul_le_mul_right ke hle
    refine q (.list ds) _ H2 ⟨ds, by rw [hl]; exact hm1, hds, rfl⟩ ((E2.less E1.sub aL hp).tinUp (by omega)) (e1.trans x1) (.lst (.inl (.inl ?_)) (dps_mono (er_less fun c h => List.mem_cons_of_mem _ h) _ _ hdp))
    rw [er_out nD]
    exact hacc
/-- if a or b: a plain and false, b drawn -/
theorem sg_ifOr {Pc : PyData → Prop} (E : Env K H0 M L σ H (.tin a n :: Γ)) (ha : a ∈ M) (h0 : QG K t (.tin a n :: Γ) false) (h : DR K a tc n k Γ Pc) (hb : ∀ d, Pc d → ∃ b : Bool, d = .bool b) (h1 : Pc (.bool true) → ∀ H', Ex (er [a] H) (er [a] H') → Env K H0 M L σ H' (.tin a (n + k) :: Γ) → ts { D with nx := tz D } σ H') (h2 : Pc (.bool false) → ∀ H', Ex (er [a] H) (er [a] H') → Env K H0 M L σ H' (.tin a (n + k) :: Γ) → tz D σ H') : tSeq (tIfS (tOr t (tTest tc)) ts tNext) tz D σ H :=
  h0 H0 M L σ H E _ fun H1 e1 => by
    rw [if_neg Bool.false_ne_true]
    exact sg_ifD (E.mono e1) ha h hb (fun p H' x => h1 p H' ((er_mono e1).trans x)) fun p H' x => h2 p H' ((er_mono e1).trans x)
theorem dr_callT {P : List PyData → Prop} {r : List V → Hp → VK → Prop} {Pd : PyData → Prop} (h : DA K a tl n k Γ P) (hr : ∀ ds, P ds → ∀ (L : List Addr) (H : Hp) (vs : List V), (∀ a ∈ L, ∃ o, H a = some o) → DpAll K (er L H) vs ds → ∀ Q : VK, (∀ d v H', Pd d → Ex H H' → Dp K (er L H') v d → Q v H') → r vs H Q) : DR K a (tCB r tl) n k Γ Pd := fun H0 M L σ H E ha Q q =>
  h H0 M L σ H E ha _ fun ds vs H1 p E1 e1 v1 => hr ds p L H1 vs E1.live v1 Q fun d v H2 pd e2 hv => q d v H2 pd (E1.mono e2) (e1.trans (er_mono e2)) hv
/-- e[lo:], both drawn -/
theorem dr_slL {Pl : List PyData → Prop} {Pn : List PyData → Nat → Prop} (h1 : DR K a ta n k1 Γ fun d => ∃ ds, Pl ds ∧ d = .list ds) (h2 : ∀ ds, Pl ds → DR K a tb (n + k1) k2 Γ fun d => ∃ m, Pn ds m ∧ d = .int (m : Nat)) : DR K a (tSl (rSlL K) ta (tPart tb) tNoPart) n (k1 + k2) Γ fun d => ∃ ds m, Pl ds ∧ Pn ds m ∧ d = .list (ds.drop m) := fun H0 M L σ H E ha Q q =>
  h1 H0 M L σ H E ha _ fun d1 x H1 ⟨ds, p1, e⟩ E1 e1 v1 => h2 ds p1 H0 M L σ H1 E1 ha _ fun d2 y H2 ⟨m, p2, e'⟩ E2 e2 v2 => by
    subst e e'
    cases v2
    have v3 := dp_mono (E2.up e2) _ _ v1
    have sl := eg_slL (K := K) (Γ := [.dat (.list ds), .dat (.int (m : Nat))]) (ta := tVar 0) (tl := tPart (tVar 1)) (th := tNoPart) (eg_var rfl) (og_some (eg_var rfl)) og_none
    have E3 : Env K H2 [] L [some x, some (.int (m : Nat))] H2 [.dat (.list ds), .dat (.int (m : Nat))] := by
      refine ⟨rfl, E2.live, (fun _ h => by cases h), by rw [er_nil]; exact Ex.refl _, fun i z hz => ?_⟩
      match i, hz with
      | 0, hz =>
        cases Option.some.inj hz
        exact ⟨x, rfl, v3⟩
      | 1, hz =>
        cases Option.some.inj hz
        exact ⟨_, rfl, .int _⟩
    obtain ⟨v, hv, v', hv', i, hi, hs⟩ := sl H2 [] L _ H2 E3 Q fun v H3 e3 hv => by
      rw [show cutD ds (some (m : Int)) none = ds.drop m from cut_from ds m] at hv
      refine q _ v H3 ⟨ds, m, p1, p2, rfl⟩ ?_ ((e1.trans e2).trans (er_mono e3)) hv
      rw [← Nat.add_assoc]
      exact E2.mono e3
    cases Option.some.inj (Option.some.inj hv)
    cases Option.some.inj (Option.some.inj hv')
    cases hi
    exact ⟨_, rfl, hs⟩
/-- e[:hi], hi drawn -/
theorem dr_slH {ds : List PyData} {Pn : Nat → Prop} (h1 : EG K ta (.tin a n :: Γ) (.list ds)) (h2 : DR K a tb n k Γ fun d => ∃ m, Pn m ∧ d = .int (m : Nat)) : DR K a (tSl (rSlL K) ta tNoPart (tPart tb)) n k Γ fun d => ∃ m, Pn m ∧ d = .list (ds.take m) := fun H0 M L σ H E ha Q q =>
  h1 H0 M L σ H E _ fun x H1 e1 v1 => h2 H0 M L σ H1 (E.mono e1) ha _ fun d2 y H2 ⟨m, p2, e'⟩ E2 e2 v2 => by
    subst e'
    cases v2
    have v3 := dp_mono (E2.up e2) _ _ v1
    have sl := eg_slL (K := K) (Γ := [.dat (.list ds), .dat (.int (m : Nat))]) (ta := tVar 0) (tl := tNoPart) (th := tPart (tVar 1)) (eg_var rfl) og_none (og_some (eg_var rfl))
    have E3 : Env K H2 [] L [some x, some (.int (m : Nat))] H2 [.dat (.list ds), .dat (.int (m : Nat))] := by
      refine ⟨rfl, E2.live, (fun _ h => by cases h), by rw [er_nil]; exact Ex.refl _, fun i z hz => ?_⟩
      match i, hz with
      | 0, hz =>
        cases Option.some.inj hz
        exact ⟨x, rfl, v3⟩
      | 1, hz =>
        cases Option.some.inj hz
        exact ⟨_, rfl, .int _⟩
    obtain ⟨v, hv, v', hv', i, hi, hs⟩ := sl H2 [] L _ H2 E3 Q fun v H3 e3 hv => by
      rw [show cutD ds none (some (m : Int)) = ds.take m from cut_to ds m] at hv
      exact q _ v H3 ⟨m, p2, rfl⟩ (E2.mono e3) (((er_mono e1).trans e2).trans (er_mono e3)) hv
    cases Option.some.inj (Option.some.inj hv)
    cases Option.some.inj (Option.some.inj hv')
    cases hi
    exact ⟨_, rfl, hs⟩
/-- a def of plain data, its arguments drawn -/
theorem dr_callP {P : List PyData → PyData → Prop} {Pds : List PyData → Prop} {Post : PyData → Prop} {X : XK} (h : DA K a tl n k Γ Pds) (hp : ∀ ds, Pds ds → ∃ d, P ds d ∧ Post d) : DR K a (tCall (spD K P) [] X tl) n k Γ Post := fun H0 M L σ H E ha Q q =>
  h H0 M L σ H E ha _ fun ds vs H1 p1 E1 e1 v1 => by
    obtain ⟨d, p2, p3⟩ := hp ds p1
    exact ⟨L, ds, d, E1.live, by rw [List.append_nil]; exact v1, p2, fun v H2 e2 hv => q d v H2 p3 (E1.mono e2) (e1.trans (er_mono e2)) hv⟩
/-- an if without else, both ways joined -/
theorem sg_ifK {β : Type} {Pc : PyData → Prop} (Γj : β → Ctx) (R : β → Prop) (E : Env K H0 M L σ H (.tin a n :: Γ)) (ha : a ∈ M) (h : DR K a tc n k Γ Pc) (hb : ∀ d, Pc d → ∃ b : Bool, d = .bool b)
    (h1 : ∀ H', Env K H0 M L σ H' (.tin a (n + k) :: Γ) → ∀ N : L2.St → Hp → Prop, (∀ b σ' H'', R b → Env K H0 M L σ' H'' (Γj b) → N σ' H'') → ts { D with nx := N } σ H') (h2 : ∀ H', Env K H0 M L σ H' (.tin a (n + k) :: Γ) → ∃ b, R b ∧ Env K H0 M L σ H' (Γj b))
    (h3 : ∀ b σ' H', R b → Env K H0 M L σ' H' (Γj b) → tz D σ' H') : tSeq (tIfS (tTest tc) ts tNext) tz D σ H :=
  sg_ifD E ha h hb (fun _ H' _ E' => h1 H' E' _ h3) fun _ H' _ E' => by
    obtain ⟨b, r, E2⟩ := h2 H' E'
    exact h3 b _ _ r E2
end
end HR

set_option Elab.async false
set_option linter.all false
set_option maxRecDepth 100000
set_option maxHeartbeats 4000000
namespace HR
open PySem PySem.Spec PyProof.Rows L2 Evl
theorem sing_all {ds : List PyData} (h : ∀ d ∈ ds, ∃ r, singOk r ∧ d = encS r) : ∃ rs : List Rec, rs.length = ds.length ∧ (∀ r ∈ rs, singOk r) ∧ ds = rs.map encS := by
  induction ds with
  | nil => exact ⟨[], rfl, (fun r hr => by cases hr), rfl⟩
  | cons d l ih =>
    obtain ⟨rs, h1, h2, h3⟩ := ih fun z hz => h z (List.mem_cons_of_mem _ hz)
    obtain ⟨r, hr, rfl⟩ := h d List.mem_cons_self
    refine ⟨r :: rs, by rw [List.length_cons, List.length_cons, h1], fun z hz => ?_, by rw [List.map_cons, h3]⟩
    rcases List.mem_cons.mp hz with q | q
    · rw [q]
      exact hr
    · exact h2 z q
section
variable {P : Program} {w : World} {K : PySem.W.Frag} {mg : Str → Option Value} {base : Heap}
theorem scLawAct : FnScope ["_law_tin", "_law_most_so", "_law_lap"] ["_law_tin", "_law_most_so"] (defScope sLawAct) := ⟨rfl, rfl, rfl, by decide +kernel, rfl, by decide +kernel, by decide +kernel⟩
theorem ok__law_act (T : Top K mg) : Ok P w K mg base 4 "_law_act" ["_law_tin", "_law_most_so"] (spTin K 14 (fun ds => ds = [.int (4 : Nat)]) PostAct) := by
  have O__law_take : Ok P w K mg base 3 _ _ _ := (ok__law_take T).mono (by decide)
  have O__law_single : Ok P w K mg base 3 _ _ _ := ok__law_single T
  refine ok_def T 35 35 scLawAct (fun vs H Q E h => by obtain ⟨L, a, n, us, ds, _, _, rfl, hu, _, _, rfl, _⟩ := h; rw [List.length_cons, dps_len hu]; rfl) (fun _ _ _ _ _ _ us hl => match us, hl with | [_, _], _ => rfl) (fun cdv A outer s H vs Q E hr h => ?_)
  obtain ⟨L, a, n, us, ds, hl, ha, rfl, hu, ht, hn, rfl, q⟩ := h
  refine ⟨_, pss_cons (ps_if (PW.pt (pw_or (pt_cmpR op_lt (pv 1) pe_int (nomark _)) (pw_or1 (pt_cmpR op_gt (pe_cal O__law_take hr (pa_cons (pv 0) (pa_cons pe_int pa_nil))) pe_int (nomark _))))) (pss_one (ps_ret (pe_cal O__law_single hr (pa_cons (pv 0) pa_nil)))) pss_nil)
      (pss_one (ps_ret (pe_tup (pa_cons pe_str (pa_cons (pe_callTy (r := rTupS K) call_tupS (by rfl) T.tupleN (by decide +kernel) (pa_cons (pe_lc (own := [("_law_lap", 2)]) (g := (gName 2)) rfl scLawAct.nd (pi_range1 (by rfl) T.rangeN (pa_cons (pe_op op_add pe_int (pe_cal O__law_take hr (pa_cons (pv 0) (pa_cons (pe_op op_sub (pv 1) pe_int) pa_nil)))) pa_nil)) (blkOk_by (N := ["_law_tin", "_law_most_so", "_law_lap"]) (sc := defScope sLawAct) (by decide +kernel)) (fun _ _ _ _ _ => (pg_name (i := 2) scLawAct.nd rfl (Or.inl rfl))) (fun _ _ _ _ _ => pts_nil) (fun _ _ _ _ _ => (pe_cal O__law_single hr (pa_cons (pv 0) pa_nil)))) pa_nil)) pa_nil))))), ?_⟩
  have E0 := env_tin (N := ["_law_tin", "_law_most_so", "_law_lap"]) hl ha hu ht
  refine sg_ifOr (n := n) (Γ := [.dat (.int (4 : Nat)), .no]) (Pc := fun d => ∃ b : Bool, d = .bool b) E0 List.mem_cons_self (tg_is (tg_T (eg_IB (eg_var rfl) eg_int)) rfl) (dr_op (k2 := 0) (dr_call (Pre := PreTake) (Post := PostTake) (ag_cons eg_int ag_nil) (by omega) ⟨3, rfl, by decide, by decide⟩) (fun d1 _ => dr_pure eg_int) fun d1 d2 e1 e2 => ?rr) (fun _ h => h) (fun _ H1 _ E1 => ?_) fun _ H1 _ E1 => ?_
  case rr =>
    obtain ⟨b, r, _, _, rfl⟩ := e1
    cases e2
    intro L H x y hl h1 h2 Q q
    exact rr_IB L H x y hl h1 h2 Q fun d v H' e => q d v H' ⟨_, e⟩
  · refine sl_retD E1 List.mem_cons_self (dr_call (Pre := fun ds => ds = []) (Post := PostSingle) ag_nil (by omega) rfl) fun d v H2 p E2 h2 => ?_
    exact q d v H2 (.inl p) E2.base (E2.tinAt.up (by omega)) h2
  · refine sl_retD E1 List.mem_cons_self (dr_tup (da_cons (dr_pure eg_str) fun d1 e1 => da_cons (dr_callT (Pd := fun d => ∃ rs : List Rec, 2 ≤ rs.length ∧ rs.length ≤ 4 ∧ (∀ r ∈ rs, singOk r) ∧ d = .tuple (rs.map encS))
      (da_cons (dr_lcR (mm := 4) (ke := 3) (js := [2]) (Pm := fun m => 2 ≤ m ∧ m ≤ 4) (P := fun d => ∃ r, singOk r ∧ d = encS r) (Γw := [.dat (.int (4 : Nat)), .no]) (Γb := fun i => [.dat (.int (4 : Nat)), .dat (.int (i : Nat))]) (fun m h => h.2) (by decide)
        (dr_op (k1 := 0) (dr_pure eg_int) (fun d1 _ => dr_call (Pre := PreTake) (Post := PostTake) (ag_cons (eg_II (eg_var rfl) eg_int) ag_nil) (by omega) ⟨3, rfl, by decide, by decide⟩) fun d1 d2 e1 e2 => ?rr2) (fun n => rfl) (fun n i => bnd_name)
        (fun n' i hn' => dr_call (Pre := fun ds => ds = []) (Post := PostSingle) ag_nil (by omega) rfl) rfl (by simp)) fun d2 e2 => da_nil) ?tup) fun d2 e2 => da_nil) ?len) fun d v H2 p E2 h2 => ?_
    case rr2 =>
      obtain ⟨b, r, e3, hr, rfl⟩ := e2
      cases e1
      injection e3 with e3
      injection e3 with e3
      have hb : b = 3 := by
        have : ((4 : Nat) : Int) - 1 = b := e3
        omega
      intro L H x y hl h1 h2 Q q
      exact rr_II L H x y hl h1 h2 Q fun d v H' e => q d v H' ⟨2 + r, ⟨by omega, by omega⟩, by rw [e]; congr 1⟩
    case tup =>
      rintro _ ⟨d1, _, rfl, ⟨es, ⟨hm1, hm2⟩, hes, rfl⟩, rfl⟩ L H vs hl hv Q q
      obtain ⟨rs, h1, h2, rfl⟩ := sing_all hes
      obtain ⟨v, rfl, hv1⟩ := ag_1 hv
      rw [List.length_map] at hm1 hm2
      cases hv1 with
      | @lst p xs _ hs hx =>
        refine ⟨_, _, rfl, .inl ⟨ex_l (er_ex L H) hs, fun c hc => ?_⟩⟩
        have nc : c ∉ L := fun m => by
          obtain ⟨o, e⟩ := hl c m
          rw [hc] at e
          cases e
        have e4 := Ex.new (o := .tup xs) hc
        refine q _ _ _ ⟨rs, hm1, hm2, h2, rfl⟩ e4 (.tup (.inl (.inl ?_)) (dps_mono (er_mono e4) _ _ hx))
        rw [er_out nc]
        exact upd_same
    case len =>
      rintro _ ⟨_, _, rfl, _, _, _, rfl, _, rfl⟩
      simp
    · obtain ⟨_, ⟨_, _, rfl, rfl, d2, _, rfl, ⟨rs, g1, g2, g3, rfl⟩, rfl⟩, rfl⟩ := p
      exact q _ v H2 (.inr ⟨rs, g1, g2, g3, rfl⟩) E2.base (E2.tinAt.up (by omega)) h2
theorem scLawParts : FnScope ["_law_act_here", "_law_rows_so", "_law_k", "_law_own"] ["_law_act_here"] (defScope sLawParts) := ⟨rfl, rfl, rfl, by decide +kernel, rfl, by decide +kernel, by decide +kernel⟩
def PParts (ds : List PyData) (d : PyData) : Prop := ∃ ss : List Rec, 1 ≤ ss.length ∧ ss.length ≤ 4 ∧ (∀ r ∈ ss, singOk r) ∧ d = .list ((lotRecs ss).map enc) ∧ ((∃ r, ss = [r] ∧ ds = [encS r]) ∨ ds = [.tuple [.str "lot", .tuple (ss.map encS)]])
theorem tag_lot {r : Rec} (h : r.isBlank = false) : decide (r.tag = ("lot" : Str)) = false := by
  cases r with
  | blank => cases h
  | put k w p l => exact decide_eq_false (show ¬ ("put" : Str) = "lot" by decide)
  | drop k p l => exact decide_eq_false (show ¬ ("drop" : Str) = "lot" by decide)
theorem ok__law_parts (T : Top K mg) : Ok P w K mg base 1 "_law_parts" ["_law_act_here"] (spD K PParts) := by
  refine ok_pure T 36 scLawParts (fun ds d h => by obtain ⟨ss, _, _, _, _, ⟨r, _, rfl⟩ | rfl⟩ := h <;> rfl) (fun _ _ _ _ _ _ us hl => match us, hl with | [_], _ => rfl) (fun cdv A outer s H E hr => ⟨_, pss_cons (ps_set (i := 1) scLawParts.nd rfl (.inr rfl) (pe_ifExp (pt_cmpR op_eq (pe_ix (r := rIxT K) ix_tup (pv 0) pe_int (fun _ _ => rfl)) pe_str (nomark _)) (pe_ix (r := rIxT K) ix_tup (pv 0) pe_int (fun _ _ => rfl)) (pe_tup (pa_cons (pv 0) pa_nil))))
      (pss_one (ps_ret (pe_lc (own := [("_law_k", 2), ("_law_own", 3)]) (g := (gTup K 2 (gCons (gName 2) (gCons (gName 3) gNil)))) rfl scLawParts.nd (pi_enumT (by rfl) T.enumerateN (pa_cons (pv 1) pa_nil)) (blkOk_by (N := ["_law_act_here", "_law_rows_so", "_law_k", "_law_own"]) (sc := defScope sLawParts) (by decide +kernel)) (fun _ _ _ _ _ => (pg_tup rfl (pgs_cons (pg_name (i := 2) scLawParts.nd rfl (Or.inl rfl)) (pgs_cons (pg_name (i := 3) scLawParts.nd rfl (Or.inl rfl)) pgs_nil)))) (fun _ _ _ _ _ => pts_nil) (fun _ _ _ _ _ => (pe_op (r := rCatA K) op_catA (pv 3) (pe_tup (pa_cons (pv 2) (pa_cons (pe_op op_sub (pe_op op_sub (pe_callB (r := rLenX K) call_lenX (by rfl) T.lenN (by decide +kernel) (pa_cons (pv 1) pa_nil)) pe_int) (pv 2)) pa_nil)))))))), fun ds d h => ?_⟩)
  obtain ⟨ss, h1, h2, h3, rfl, h4⟩ := h
  obtain ⟨x, rfl⟩ : ∃ x, ds = [x] := by
    obtain ⟨r, _, rfl⟩ | rfl := h4
    · exact ⟨_, rfl⟩
    · exact ⟨_, rfl⟩
  refine bg_asg (d := .tuple (ss.map encS)) ?_ (bg_ret (eg_is (eg_lc (js := [2, 3]) (α := Rec × Nat) (enc := fun x => .tuple [.int (x.2 : Nat), encS x.1]) (xs := ss.zipIdx) (src_is (src_enumT (ag_cons (eg_var rfl) ag_nil)) ?_) (fun z => [.dat x, .dat (.tuple (ss.map encS)), .dat (.int (z.2 : Nat)), .dat (encS z.1)]) (fun z _ => bnd_two)
    (fun z => enc (z.1.at z.2 (ss.length - 1 - z.2))) ?_ fun z hz => ?_) ?_))
  · obtain ⟨r, rfl, e⟩ | e := h4
    · injection e with e
      subst e
      refine eg_if (b := false) (tg_is (tg_T (eg_eqS (eg_ixT (eg_var rfl) eg_int (ats_0 (h3 r List.mem_cons_self).1)) eg_str)) (tag_lot (h3 r List.mem_cons_self).1)) (fun h => by cases h) fun _ => eg_tup (ag_cons (eg_var rfl) ag_nil)
    · injection e with e
      subst e
      exact eg_if (b := true) (tg_is (tg_T (eg_eqS (eg_ixT (eg_var rfl) eg_int rfl) eg_str)) (by rfl)) (fun _ => eg_ixT (eg_var rfl) eg_int rfl) (fun h => by cases h)
  · rw [List.zipIdx_map, List.map_map]
    rfl
  · rw [List.length_zipIdx]
    omega
  · have m0 := List.mem_zipIdx_iff_getElem?.mp hz
    have hlt := (List.getElem?_eq_some_iff.mp m0).1
    have hb := (h3 z.1 (List.mem_of_getElem? m0)).1
    refine eg_is (eg_catT (eg_var rfl) (eg_tup (ag_cons (eg_var rfl) (ag_cons (eg_is (d' := .int ((ss.length - 1 - z.2 : Nat) : Int)) (eg_II (eg_II (eg_lenXT (eg_var rfl)) eg_int) (eg_var rfl)) ?_) ag_nil))) ?_) (at_good hb).2.2.2.2.symm
    · rw [List.length_map]
      congr 1
      omega
    · cases z.1 <;> exact Nat.le_of_ble_eq_true rfl
  · unfold lotRecs
    rw [List.map_map]
    rfl
theorem scLawFresh : FnScope ["_law_tin", "_law_most_so", "_law_found", "_law_lap", "_law_parts_so"] ["_law_tin", "_law_most_so"] (defScope sLawFresh) := ⟨rfl, rfl, rfl, by decide +kernel, rfl, by decide +kernel, by decide +kernel⟩
def PostFresh (_ : List PyData) (d : PyData) : Prop := ∃ rs, Drawn rs 24 ∧ d = .list (rs.map enc)
theorem ok__law_fresh (T : Top K mg) : Ok P w K mg base 5 "_law_fresh" ["_law_tin", "_law_most_so"] (spTin K 103 (fun ds => ds = [.int (6 : Nat)]) PostFresh) := by
  have O__law_take : Ok P w K mg base 4 _ _ _ := (ok__law_take T).mono (by decide)
  have O__law_parts : Ok P w K mg base 4 _ _ _ := (ok__law_parts T).mono (by decide)
  have O__law_act : Ok P w K mg base 4 _ _ _ := ok__law_act T
  have O__law_blank : Ok P w K mg base 4 _ _ _ := (ok__law_blank T).mono (by decide)
  refine ok_def T 40 40 scLawFresh (fun vs H Q E h => by obtain ⟨L, a, n, us, ds, _, _, rfl, hu, _, _, rfl, _⟩ := h; rw [List.length_cons, dps_len hu]; rfl) (fun _ _ _ _ _ _ us hl => match us, hl with | [_, _], _ => rfl) (fun cdv A outer s H vs Q E hr h => ?_)
  obtain ⟨L, a, n, us, ds, hl, ha, rfl, hu, ht, hn, rfl, q⟩ := h
  refine ⟨_, pss_cons (ps_set (i := 2) scLawFresh.nd rfl (.inl rfl) (pe_lst pa_nil))
      (pss_cons (ps_for PassesOwn.never rfl (pi_range1 (by rfl) T.rangeN (pa_cons (pe_op op_add pe_int (pe_cal O__law_take hr (pa_cons (pv 0) (pa_cons (pv 1) pa_nil)))) pa_nil)) (pg_name (i := 3) scLawFresh.nd rfl (Or.inl rfl))
      (pss_cons (ps_set (i := 4) scLawFresh.nd rfl (.inl rfl) (pe_cal O__law_parts hr (pa_cons (pe_cal O__law_act hr (pa_cons (pv 0) (pa_cons pe_int pa_nil))) pa_nil)))
      (pss_cons (ps_if (pt_cmpR op_eq (pe_cal O__law_take hr (pa_cons (pv 0) (pa_cons pe_int pa_nil))) pe_int (nomark _)) (pss_one (ps_set (i := 4) scLawFresh.nd rfl (.inl rfl) (pe_slice (r := rSlL K) sl_list (pv 4) po_none (po_some (pe_op op_add pe_int (pe_cal O__law_take hr (pa_cons (pv 0) (pa_cons (pe_callB (r := rLenX K) call_lenX (by rfl) T.lenN (by decide +kernel) (pa_cons (pv 4) pa_nil)) pa_nil)))))))) pss_nil)
      (pss_one (ps_set (i := 2) scLawFresh.nd rfl (.inl rfl) (pe_op (r := rCatS K) op_catS (pv 2) (pe_ifExp (pt_cmpR op_eq (pe_cal O__law_take hr (pa_cons (pv 0) (pa_cons pe_int pa_nil))) pe_int (nomark _)) (pe_lst (pa_cons (pe_cal0 O__law_blank hr) pa_nil)) (pv 4))))))))
      (pss_one (ps_ret (pv 2)))), ?_⟩
  have E0 := env_tin (N := ["_law_tin", "_law_most_so", "_law_found", "_law_lap", "_law_parts_so"]) hl ha hu ht
  refine sg_asg (d := .list ([] : List PyData)) E0 (eg_lst ag_nil) fun σ1 H1 e1 E1 => ?_
  refine sg_forR (n := n) (k := 1) (a := a) (Γ := [.dat (.int (6 : Nat)), .dat (.list []), .no, .no]) (P := fun m => m ≤ 6) (js := [3]) (fun m h => Nat.le_trans h (by decide)) E1 List.mem_cons_self
    (DR.to (dr_op (k1 := 0) (dr_pure eg_int) (fun d1 _ => dr_call (Pre := PreTake) (Post := PostTake) (ag_cons (eg_var rfl) ag_nil) (by omega) ⟨6, rfl, by decide, by decide⟩) fun d1 d2 e1 e2 => ?rr) (fun d h => h))
    (β := List Rec) (fun i rs => .tin a (n + 1 + i * 17) :: [.dat (.int (6 : Nat)), .dat (.list (rs.map enc)), .no, .no]) (fun i x rs => .tin a (n + 1 + i * 17) :: [.dat (.int (6 : Nat)), .dat (.list (rs.map enc)), .dat (.int (x : Nat)), .no]) (fun i rs => Drawn rs (4 * i)) [] Drawn.nil (by rfl) (fun i x b _ => bnd_name) ?_ ?_
  case rr =>
    obtain ⟨b, r, e3, hr, rfl⟩ := e2
    cases e1
    injection e3 with e3
    injection e3 with e3
    intro L H x y hl h1 h2 Q q
    exact rr_II L H x y hl h1 h2 Q fun d v H' e => q d v H' ⟨1 + r, by show 1 + r ≤ 6; omega, by rw [e]; congr 1⟩
  · intro i x rs B' σ2 H2 N _ hI ⟨m, hm, him⟩ hB E2 hN
    have h6 : i < 6 := Nat.lt_of_lt_of_le him hm
    refine sg_asgD (i := 3) E2 List.mem_cons_self (dr_callP (Post := fun d => ∃ ps, Piece ps ∧ 1 ≤ ps.length ∧ d = .list (ps.map enc)) (da_cons (dr_call (k := 14) (Pre := fun ds => ds = [.int (4 : Nat)]) (Post := PostAct) (ag_cons eg_int ag_nil) (by omega) rfl) fun d2 e2 => da_nil) ?par) fun d σ3 H3 ⟨ps, hps, hl1, ed⟩ E3 => ?_
    case par =>
      rintro _ ⟨d, _, rfl, h, rfl⟩
      obtain ⟨r, hr, rfl⟩ | ⟨ss, g1, g2, g3, rfl⟩ := h
      · have hall : ∀ z ∈ [r], singOk z := fun z hz => by
          rw [List.mem_singleton.mp hz]
          exact hr
        exact ⟨_, ⟨[r], by simp, by simp, hall, rfl, .inl ⟨r, rfl, rfl⟩⟩, lotRecs [r], Piece.lot hall (by simp), by rw [lotRecs_len]; simp, rfl⟩
      · exact ⟨_, ⟨ss, by omega, g2, g3, rfl, .inr rfl⟩, lotRecs ss, Piece.lot g3 g2, by rw [lotRecs_len]; omega, rfl⟩
    subst ed
    refine sg_ifK (β := List Rec) (k := 1) (Pc := fun d => ∃ b : Bool, d = .bool b) (fun us => .tin a (n + 1 + i * 17 + 16) :: [.dat (.int (6 : Nat)), .dat (.list (rs.map enc)), .dat (.int (x : Nat)), .dat (.list (us.map enc))]) Piece E3 List.mem_cons_self
      (dr_op (k2 := 0) (dr_call (Pre := PreTake) (Post := PostTake) (ag_cons eg_int ag_nil) (by omega) ⟨4, rfl, by decide, by decide⟩) (fun d1 _ => dr_pure eg_int) fun d1 d2 e1 e2 => ?rr4) (fun _ h => h) (fun H4 E4 N2 hN2 => ?_) (fun H4 E4 => ⟨ps, hps, E4.tinUp (by omega)⟩) fun us σ4 H4 hus E4 => ?_
    case rr4 =>
      obtain ⟨b, r, _, _, rfl⟩ := e1
      cases e2
      intro L H x y hl h1 h2 Q q
      exact rr_eqI L H x y hl h1 h2 Q fun d v H' e => q d v H' ⟨_, e⟩
    · refine sl_asgD (i := 3) (k := 1) E4 List.mem_cons_self (dr_slH (Pn := fun _ => True) (eg_var rfl) (DR.to (dr_op (k1 := 0) (dr_pure eg_int) (fun d1 _ => dr_call (Pre := PreTake) (Post := PostTake) (ag_cons (eg_lenXL (eg_var rfl)) ag_nil) (by omega) ⟨(ps.map enc).length, rfl, by rw [List.length_map]; omega, by rw [List.length_map]; have := hps.short; omega⟩) fun d1 d2 e1 e2 => ?rr5) (fun d h => h))) fun d σ5 H5 ⟨m5, _, ed⟩ E5 => ?_
      case rr5 =>
        obtain ⟨b, r, e3, hr, rfl⟩ := e2
        cases e1
        intro L H x y hl h1 h2 Q q
        exact rr_II L H x y hl h1 h2 Q fun d v H' e => q d v H' ⟨1 + r, trivial, by rw [e]; congr 1⟩
      subst ed
      refine hN2 (ps.take m5) _ _ (hps.take m5) ?_
      rw [List.map_take]
      exact E5.tinUp (by omega)
    · refine sl_asgD (i := 1) (k := 1) E4 List.mem_cons_self (dr_op (k1 := 0) (P2 := fun _ d => ∃ qs, Piece qs ∧ d = .list (qs.map enc)) (P := fun d => ∃ qs, Piece qs ∧ d = .list ((rs ++ qs).map enc)) (dr_pure (eg_var rfl)) (fun d1 _ => dr_if (k2 := 0) (Pc := fun d => ∃ b : Bool, d = .bool b) (dr_op (k2 := 0) (dr_call (Pre := PreTake) (Post := PostTake) (ag_cons eg_int ag_nil) (by omega) ⟨9, rfl, by decide, by decide⟩) (fun d1 _ => dr_pure eg_int) fun d1 d2 e1 e2 => ?rr6) (fun _ h => h)
        (fun _ => (dr_pure (eg_lst (ag_cons (eg_call (P := PBlank) ag_nil ⟨rfl, rfl⟩) ag_nil))).to fun d e => ⟨[.blank], Piece.blank, e⟩) fun _ => (dr_pure (eg_var rfl)).to fun d e => ⟨us, hus, e⟩) fun d1 d2 e1 e2 => ?rr7) fun d σ5 H5 ⟨qs, hqs, ed⟩ E5 => ?_
      case rr6 =>
        obtain ⟨b, r, _, _, rfl⟩ := e1
        cases e2
        intro L H x y hl h1 h2 Q q
        exact rr_eqI L H x y hl h1 h2 Q fun d v H' e => q d v H' ⟨_, e⟩
      case rr7 =>
        obtain ⟨qs, hqs, rfl⟩ := e2
        cases e1
        intro L H x y hl h1 h2 Q q
        exact rr_catL (by rw [List.length_map, List.length_map]; have := hI.short; have := hqs.short; omega) L H x y hl h1 h2 Q fun d v H' e => q d v H' ⟨qs, hqs, by rw [e, List.map_append]⟩
      subst ed
      refine hN (rs ++ qs) _ _ (by rw [Nat.mul_add]; exact hI.add hqs) ?_
      exact ((E5.forget 3).forget 4).tinUp (by omega)
  · intro m rs σ2 H2 hm hI E2
    have hm6 : m ≤ 6 := hm
    have hD : Drawn rs 24 := ⟨hI.unb, hI.good, by have := hI.short; omega⟩
    refine sl_ret E2 (eg_var rfl) fun v H3 e3 E3 h3 => q _ v H3 ⟨rs, hD, rfl⟩ E3.base (E3.tinAt.up (by omega)) h3
end
end HR

set_option Elab.async false
set_option linter.all false
set_option maxRecDepth 100000
set_option maxHeartbeats 4000000
namespace HR
open PySem PySem.Spec PyProof.Rows L2 Evl
/-- the same with lists in the place of tuples, n deep -/
def lisN : Nat → PyData → PyData
  | 0, d => d
  | n + 1, .list ds => .list (ds.map (lisN n))
  | n + 1, .tuple ds => .list (ds.map (lisN n))
  | _ + 1, d => d
theorem rowIn_lis {rs : List Rec} (g : ∀ r ∈ rs, recOk r = true) (hn : rs.length ≤ 40) : RowIn (lisN 2 (rowD rs)) rs where
  ok := by
    show (decide (((rs.map enc).map (lisN 1)).length ≤ 1000) && ((rs.map enc).map (lisN 1)).all (okT 1)) = true
    rw [List.length_map, List.length_map, decide_eq_true (by omega), Bool.true_and, List.all_map, List.all_map, List.all_eq_true]
    intro r _
    cases r <;> rfl
  eq := by
    show PyData.tuple (((rs.map enc).map (lisN 1)).map (tupN 1)) = PyData.tuple (rs.map enc)
    rw [List.map_map, List.map_map]
    congr 1
    exact List.map_congr_left fun r _ => by cases r <;> rfl
  good := g
  small := hn
def scalD : PyData → Bool
  | .none => true
  | .bool _ => true
  | .int _ => true
  | .str _ => true
  | _ => false
section
variable {K : PySem.W.Frag} {Γ : Ctx} {ta tb : TE} {d : PyData}
theorem eg_isN2 (ha : EG K ta Γ d) : EG K (tIsN ta) Γ (.bool (!someD d)) := eg_is (eg_isN ha) (by cases d <;> rfl)
theorem eg_eqNon (ha : EG K ta Γ .none) (hb : EG K tb Γ .none) : EG K (tOp rEq ta tb) Γ (.bool true) := fun H0 M L σ H E Q q => by
  refine ha H0 M L σ H E _ fun v H1 e1 h1 => hb H0 M L σ H1 (E.mono e1) _ fun u H2 e2 h2 => ?_
  cases h1
  cases h2
  exact ⟨rfl, q _ H2 (e1.trans e2) (by rw [decide_eq_true rfl]; exact .bl _)⟩
theorem eg_eqSame (ha : EG K ta Γ d) (hb : EG K tb Γ d) (h : scalD d = true) : EG K (tOp rEq ta tb) Γ (.bool true) := by
  cases d with
  | none => exact eg_eqNon ha hb
  | bool b => exact eg_is (eg_eqB ha hb) (by rw [decide_eq_true rfl])
  | int i => exact eg_is (eg_eqI ha hb) (by rw [decide_eq_true rfl])
  | str s => exact eg_is (eg_eqS ha hb) (by rw [decide_eq_true rfl])
  | list _ => cases h
  | tuple _ => cases h
  | dict _ => cases h
end
theorem zip_self {α : Type} : ∀ xs : List α, xs.zip xs = xs.map fun x => (x, x)
  | [] => rfl
  | x :: xs => by rw [List.zip_cons_cons, zip_self xs, List.map_cons]
section
variable {P : Program} {w : World} {K : PySem.W.Frag} {mg : Str → Option Value} {base : Heap}
theorem scLawRow : FnScope ["_law_tin", "_law_most_so"] ["_law_tin", "_law_most_so"] (defScope sLawRow) := ⟨rfl, rfl, rfl, by decide +kernel, rfl, by decide +kernel, by decide +kernel⟩
theorem ok__law_row (T : Top K mg) : Ok P w K mg base 6 "_law_row" ["_law_tin", "_law_most_so"] (spTin K 104 (fun ds => ds = [.int (6 : Nat)]) PostFresh) := by
  have O__law_take : Ok P w K mg base 5 _ _ _ := (ok__law_take T).mono (by decide)
  have O__law_fresh : Ok P w K mg base 5 _ _ _ := ok__law_fresh T
  refine ok_def T 41 41 scLawRow (fun vs H Q E h => by obtain ⟨L, a, n, us, ds, _, _, rfl, hu, _, _, rfl, _⟩ := h; rw [List.length_cons, dps_len hu]; rfl) (fun _ _ _ _ _ _ us hl => match us, hl with | [_, _], _ => rfl) (fun cdv A outer s H vs Q E hr h => ?_)
  obtain ⟨L, a, n, us, ds, hl, ha, rfl, hu, ht, hn, rfl, q⟩ := h
  refine ⟨_, pss_one (ps_ret (pe_slice (r := rSlL K) sl_list (pe_cal O__law_fresh hr (pa_cons (pv 0) (pa_cons (pv 1) pa_nil))) (po_some (pe_cal O__law_take hr (pa_cons (pv 0) (pa_cons pe_int pa_nil)))) po_none)), ?_⟩
  have E0 := env_tin (N := ["_law_tin", "_law_most_so"]) hl ha hu ht
  refine sl_retD E0 List.mem_cons_self (dr_slL (Pl := fun ds => ∃ rs, Drawn rs 24 ∧ ds = rs.map enc) (Pn := fun _ _ => True) (DR.to (k := 103) (k' := 103) (dr_call (k := 103) (Pre := fun ds => ds = [.int (6 : Nat)]) (Post := PostFresh) (ag_cons (eg_var rfl) ag_nil) (by omega) rfl) fun d ⟨rs, h, e⟩ => ⟨_, ⟨rs, h, rfl⟩, e⟩) fun ds _ => DR.to (k := 1) (k' := 1) (dr_call (k := 1) (Pre := PreTake) (Post := PostTake) (ag_cons eg_int ag_nil) (by omega) ⟨3, rfl, by decide, by decide⟩) fun d ⟨b, r, _, _, e⟩ => ⟨r, trivial, e⟩) fun d v H1 ⟨es, m, ⟨rs, h, e1⟩, _, e2⟩ E1 h1 => ?_
  subst e1 e2
  exact q _ v H1 ⟨rs.drop m, h.drop m, by rw [List.map_drop]⟩ E1.base E1.tinAt h1
theorem scLawLists : FnScope ["_law_matter", "_law_bit"] ["_law_matter"] (defScope sLawLists) := ⟨rfl, rfl, rfl, by decide +kernel, rfl, by decide +kernel, by decide +kernel⟩
def PLists (n : Nat) (ds : List PyData) (d : PyData) : Prop := ∃ x : PyData, okT n x = true ∧ ds = [x] ∧ d = lisN n x
theorem ok__law_lists (T : Top K mg) : ∀ n : Nat, Ok P w K mg base (n + 1) "_law_lists" ["_law_matter"] (spD K (PLists n))
  | 0 => by
    refine ok_pure T 30 scLawLists (fun ds d h => by obtain ⟨x, _, rfl, _⟩ := h; rfl) (fun _ _ _ _ _ _ us hl => match us, hl with | [_], _ => rfl) (fun cdv A outer s H E hr => ⟨_, pss_one (ps_ret (pe_ifExp (pt_val (pe_callB (r := rIsiT K) call_isiT (by rfl) T.isinstanceN (by decide +kernel) (pa_cons (pv 0) (pa_cons (pe_tup (pa_cons (pe_bltn (v := .ty "list") (by rfl) T.listN (by decide +kernel) rfl) (pa_cons (pe_bltn (v := .ty "tuple") (by rfl) T.tupleN (by decide +kernel) rfl) pa_nil))) pa_nil)))) (pe_lc (own := [("_law_bit", 1)]) (g := (gName 1)) rfl scLawLists.nd (pi_seq (pv 0)) (blkOk_by (N := ["_law_matter", "_law_bit"]) (sc := defScope sLawLists) (by decide +kernel)) (fun _ _ _ _ _ => (pg_name (i := 1) scLawLists.nd rfl (Or.inl rfl))) (fun _ _ _ _ _ => pts_nil) (fun _ _ _ _ _ => pe_no)) (pv 0))), fun ds d h => ?_⟩)
    obtain ⟨x, hx, rfl, e⟩ := h
    have e1 : d = x := e
    subst e1
    refine bg_ret (eg_if (tg_B (eg_isi2 (eg_var rfl))) (fun h => ?_) fun _ => eg_var rfl)
    cases d with
    | list ds => unfold okT at hx; cases hx
    | tuple ds => unfold okT at hx; cases hx
    | dict kvs => unfold okT at hx; cases hx
    | none => exact absurd h (by decide)
    | bool b => exact absurd h (by show ¬ (isS "bool" "list" || isS "bool" "tuple") = true; decide)
    | int b => exact absurd h (by show ¬ (isS "int" "list" || isS "int" "tuple") = true; decide)
    | str b => exact absurd h (by show ¬ (isS "str" "list" || isS "str" "tuple") = true; decide)
  | n + 1 => by
    have O__law_lists : Ok P w K mg base (n + 1) _ _ _ := ok__law_lists T n
    refine ok_pure T 30 scLawLists (fun ds d h => by obtain ⟨x, _, rfl, _⟩ := h; rfl) (fun _ _ _ _ _ _ us hl => match us, hl with | [_], _ => rfl) (fun cdv A outer s H E hr => ⟨_, pss_one (ps_ret (pe_ifExp (pt_val (pe_callB (r := rIsiT K) call_isiT (by rfl) T.isinstanceN (by decide +kernel) (pa_cons (pv 0) (pa_cons (pe_tup (pa_cons (pe_bltn (v := .ty "list") (by rfl) T.listN (by decide +kernel) rfl) (pa_cons (pe_bltn (v := .ty "tuple") (by rfl) T.tupleN (by decide +kernel) rfl) pa_nil))) pa_nil)))) (pe_lc (own := [("_law_bit", 1)]) (g := (gName 1)) rfl scLawLists.nd (pi_seq (pv 0)) (blkOk_by (N := ["_law_matter", "_law_bit"]) (sc := defScope sLawLists) (by decide +kernel)) (fun _ _ _ _ _ => (pg_name (i := 1) scLawLists.nd rfl (Or.inl rfl))) (fun _ _ _ _ _ => pts_nil) (fun _ _ _ _ _ => (pe_cal O__law_lists hr (pa_cons (pv 1) pa_nil)))) (pv 0))), fun ds d h => ?_⟩)
    obtain ⟨x, hx, rfl, rfl⟩ := h
    cases x with
    | list xs =>
      obtain ⟨h1, h2⟩ := Bool.and_eq_true_iff.mp (show (decide (xs.length ≤ 1000) && xs.all (okT n)) = true from hx)
      refine bg_ret (eg_if (b := true) (tg_is (tg_B (eg_isi2 (eg_var rfl))) rfl) (fun _ => ?_) fun h => by cases h)
      exact eg_lc (js := [1]) (α := PyData) (enc := fun x => x) (xs := xs) (src_is (src_seqL (eg_var rfl)) (List.map_id' _).symm) (fun x => [.dat (.list xs), .dat x]) (fun x _ => bnd_name) (lisN n) (of_decide_eq_true h1)
        fun x hm => eg_call (ag_cons (eg_var rfl) ag_nil) ⟨x, List.all_eq_true.mp h2 x hm, rfl, rfl⟩
    | tuple xs =>
      obtain ⟨h1, h2⟩ := Bool.and_eq_true_iff.mp (show (decide (xs.length ≤ 1000) && xs.all (okT n)) = true from hx)
      refine bg_ret (eg_if (b := true) (tg_is (tg_B (eg_isi2 (eg_var rfl))) rfl) (fun _ => ?_) fun h => by cases h)
      exact eg_lc (js := [1]) (α := PyData) (enc := fun x => x) (xs := xs) (src_is (src_seqT (eg_var rfl)) (List.map_id' _).symm) (fun x => [.dat (.tuple xs), .dat x]) (fun x _ => bnd_name) (lisN n) (of_decide_eq_true h1)
        fun x hm => eg_call (ag_cons (eg_var rfl) ag_nil) ⟨x, List.all_eq_true.mp h2 x hm, rfl, rfl⟩
    | dict kvs => unfold okT at hx; cases hx
    | none => exact bg_ret (eg_if (b := false) (tg_is (tg_B (eg_isi2 (eg_var rfl))) (by decide)) (fun h => by cases h) fun _ => eg_var rfl)
    | bool b => exact bg_ret (eg_if (b := false) (tg_is (tg_B (eg_isi2 (eg_var rfl))) (by show (isS "bool" "list" || isS "bool" "tuple") = false; decide)) (fun h => by cases h) fun _ => eg_var rfl)
    | int b => exact bg_ret (eg_if (b := false) (tg_is (tg_B (eg_isi2 (eg_var rfl))) (by show (isS "int" "list" || isS "int" "tuple") = false; decide)) (fun h => by cases h) fun _ => eg_var rfl)
    | str b => exact bg_ret (eg_if (b := false) (tg_is (tg_B (eg_isi2 (eg_var rfl))) (by show (isS "str" "list" || isS "str" "tuple") = false; decide)) (fun h => by cases h) fun _ => eg_var rfl)
theorem scLawSame : FnScope ["_law_got", "_law_due", "_law_mine", "_law_its"] ["_law_got", "_law_due"] (defScope sLawSame) := ⟨rfl, rfl, rfl, by decide +kernel, rfl, by decide +kernel, by decide +kernel⟩
def PSame (n : Nat) (ds : List PyData) (d : PyData) : Prop := ∃ x : PyData, okT n x = true ∧ ds = [x, x] ∧ d = .bool true
theorem okT_scal {n : Nat} {x : PyData} (h : okT n x = true) : scalD x = true ∨ ∃ m ds, n = m + 1 ∧ (x = .list ds ∨ x = .tuple ds) ∧ ds.length ≤ 1000 ∧ ∀ d ∈ ds, okT m d = true := by
  cases x with
  | none => exact .inl rfl
  | bool b => exact .inl rfl
  | int b => exact .inl rfl
  | str b => exact .inl rfl
  | dict kvs => unfold okT at h; cases h
  | list ds =>
    cases n with
    | zero => unfold okT at h; cases h
    | succ m =>
      obtain ⟨h1, h2⟩ := Bool.and_eq_true_iff.mp (show (decide (ds.length ≤ 1000) && ds.all (okT m)) = true from h)
      exact .inr ⟨m, ds, rfl, .inl rfl, of_decide_eq_true h1, List.all_eq_true.mp h2⟩
  | tuple ds =>
    cases n with
    | zero => unfold okT at h; cases h
    | succ m =>
      obtain ⟨h1, h2⟩ := Bool.and_eq_true_iff.mp (show (decide (ds.length ≤ 1000) && ds.all (okT m)) = true from h)
      exact .inr ⟨m, ds, rfl, .inr rfl, of_decide_eq_true h1, List.all_eq_true.mp h2⟩
theorem not_dec (b : Bool) : (!decide (b = b)) = false := by cases b <;> rfl
theorem yes_dec (b : Bool) : decide (b = b) = true := by cases b <;> rfl
theorem ok__law_same (T : Top K mg) : ∀ n : Nat, Ok P w K mg base (n + 1) "_law_same" ["_law_got", "_law_due"] (spD K (PSame n))
  | 0 => by
    refine ok_pure T 31 scLawSame (fun ds d h => by obtain ⟨x, _, rfl, _⟩ := h; rfl) (fun _ _ _ _ _ _ us hl => match us, hl with | [_, _], _ => rfl) (fun cdv A outer s H E hr => ⟨_, pss_cons (ps_if (pt_val (pe_callB (r := rIsiT K) call_isiT (by rfl) T.isinstanceN (by decide +kernel) (pa_cons (pv 1) (pa_cons (pe_tup (pa_cons (pe_bltn (v := .ty "list") (by rfl) T.listN (by decide +kernel) rfl) (pa_cons (pe_bltn (v := .ty "tuple") (by rfl) T.tupleN (by decide +kernel) rfl) pa_nil))) pa_nil)))) (pss_cons (ps_if (PW.pt (pw_or (pt_cmpR op_ne (pe_callB (r := rIsi K) call_isi (by rfl) T.isinstanceN (by decide +kernel) (pa_cons (pv 0) (pa_cons (pe_bltn (v := .ty "list") (by rfl) T.listN (by decide +kernel) rfl) pa_nil))) (pe_callB (r := rIsi K) call_isi (by rfl) T.isinstanceN (by decide +kernel) (pa_cons (pv 1) (pa_cons (pe_bltn (v := .ty "list") (by rfl) T.listN (by decide +kernel) rfl) pa_nil))) (nomark _)) (pw_or1 (pt_cmpR op_ne (pe_callB (r := rIsi K) call_isi (by rfl) T.isinstanceN (by decide +kernel) (pa_cons (pv 0) (pa_cons (pe_bltn (v := .ty "tuple") (by rfl) T.tupleN (by decide +kernel) rfl) pa_nil))) (pe_callB (r := rIsi K) call_isi (by rfl) T.isinstanceN (by decide +kernel) (pa_cons (pv 1) (pa_cons (pe_bltn (v := .ty "tuple") (by rfl) T.tupleN (by decide +kernel) rfl) pa_nil))) (nomark _))))) (pss_one (ps_ret pe_bl)) pss_nil)
      (pss_one (ps_ret (pe_and (pe_cmpR op_eq (pe_callB (r := rLenX K) call_lenX (by rfl) T.lenN (by decide +kernel) (pa_cons (pv 0) pa_nil)) (pe_callB (r := rLenX K) call_lenX (by rfl) T.lenN (by decide +kernel) (pa_cons (pv 1) pa_nil)) (nomark _)) (pe_one (pe_callB (r := rAll K) (cr_all rfl) (by rfl) T.allN (by decide +kernel) (pa_cons (pe_lc (own := [("_law_mine", 2), ("_law_its", 3)]) (g := (gTup K 2 (gCons (gName 2) (gCons (gName 3) gNil)))) rfl scLawSame.nd (RZ.pi_zipA (by rfl) T.zipN (pa_cons (pv 0) (pa_cons (pv 1) pa_nil))) (blkOk_by (N := ["_law_got", "_law_due", "_law_mine", "_law_its"]) (sc := defScope sLawSame) (by decide +kernel)) (fun _ _ _ _ _ => (pg_tup rfl (pgs_cons (pg_name (i := 2) scLawSame.nd rfl (Or.inl rfl)) (pgs_cons (pg_name (i := 3) scLawSame.nd rfl (Or.inl rfl)) pgs_nil)))) (fun _ _ _ _ _ => pts_nil) (fun _ _ _ _ _ => pe_no)) pa_nil))))))) pss_nil)
      (pss_cons (ps_if (PW.pt (pw_or (pt_cmp (pc_isN (pv 1))) (pw_or1 (pt_val (pe_callB (r := rIsiT K) call_isiT (by rfl) T.isinstanceN (by decide +kernel) (pa_cons (pv 1) (pa_cons (pe_tup (pa_cons (pe_bltn (v := .ty "bool") (by rfl) T.boolN (by decide +kernel) rfl) (pa_cons (pe_bltn (v := .ty "str") (by rfl) T.strN (by decide +kernel) rfl) pa_nil))) pa_nil))))))) (pss_one (ps_ret (pe_and (pe_cmpR op_eq (pv 0) (pv 1) (nomark _)) (pe_and (pe_cmpR op_eq (pe_callB (r := rIsi K) call_isi (by rfl) T.isinstanceN (by decide +kernel) (pa_cons (pv 0) (pa_cons (pe_bltn (v := .ty "bool") (by rfl) T.boolN (by decide +kernel) rfl) pa_nil))) (pe_callB (r := rIsi K) call_isi (by rfl) T.isinstanceN (by decide +kernel) (pa_cons (pv 1) (pa_cons (pe_bltn (v := .ty "bool") (by rfl) T.boolN (by decide +kernel) rfl) pa_nil))) (nomark _)) (pe_one (pe_cmpR op_eq (pe_cmp (pc_isN (pv 0))) (pe_cmp (pc_isN (pv 1))) (nomark _))))))) pss_nil)
      (pss_one (ps_ret (pe_and (pe_callB (r := rIsi K) call_isi (by rfl) T.isinstanceN (by decide +kernel) (pa_cons (pv 0) (pa_cons (pe_bltn (v := .ty "int") (by rfl) T.intN (by decide +kernel) rfl) pa_nil))) (pe_and (pe_not (pe_callB (r := rIsi K) call_isi (by rfl) T.isinstanceN (by decide +kernel) (pa_cons (pv 0) (pa_cons (pe_bltn (v := .ty "bool") (by rfl) T.boolN (by decide +kernel) rfl) pa_nil)))) (pe_one (pe_cmpR op_eq (pv 0) (pv 1) (nomark _)))))))), fun ds d h => ?_⟩)
    obtain ⟨x, hx, rfl, rfl⟩ := h
    obtain hs | ⟨m, _, e, _⟩ := okT_scal hx
    · refine bg_if0 (tg_is (tg_B (eg_isi2 (eg_var rfl))) (by cases x <;> first | rfl | cases hs)) ?_
      refine bg_if (tg_or (tg_T (eg_isN2 (eg_var rfl))) fun _ => tg_B (eg_isi2 (eg_var rfl))) (fun _ => bg_ret (eg_is (eg_and (eg_eqSame (eg_var rfl) (eg_var rfl) hs) fun _ => eg_and (eg_eqB (eg_isi (eg_var rfl)) (eg_isi (eg_var rfl))) fun _ => eg_eqB (eg_isN2 (eg_var rfl)) (eg_isN2 (eg_var rfl))) ?_)) fun h => bg_ret (eg_is (eg_and (eg_isi (eg_var rfl)) fun _ => eg_and (eg_not (eg_isi (eg_var rfl))) fun _ => eg_eqSame (eg_var rfl) (eg_var rfl) hs) ?_)
      · rw [yes_dec, yes_dec]
        rfl
      · cases x with
        | int i => rfl
        | none => cases h
        | bool b => cases h
        | str b => cases h
        | list _ => cases hs
        | tuple _ => cases hs
        | dict _ => cases hs
    · cases e
  | n + 1 => by
    have O__law_same : Ok P w K mg base (n + 1) _ _ _ := ok__law_same T n
    refine ok_pure T 31 scLawSame (fun ds d h => by obtain ⟨x, _, rfl, _⟩ := h; rfl) (fun _ _ _ _ _ _ us hl => match us, hl with | [_, _], _ => rfl) (fun cdv A outer s H E hr => ⟨_, pss_cons (ps_if (pt_val (pe_callB (r := rIsiT K) call_isiT (by rfl) T.isinstanceN (by decide +kernel) (pa_cons (pv 1) (pa_cons (pe_tup (pa_cons (pe_bltn (v := .ty "list") (by rfl) T.listN (by decide +kernel) rfl) (pa_cons (pe_bltn (v := .ty "tuple") (by rfl) T.tupleN (by decide +kernel) rfl) pa_nil))) pa_nil)))) (pss_cons (ps_if (PW.pt (pw_or (pt_cmpR op_ne (pe_callB (r := rIsi K) call_isi (by rfl) T.isinstanceN (by decide +kernel) (pa_cons (pv 0) (pa_cons (pe_bltn (v := .ty "list") (by rfl) T.listN (by decide +kernel) rfl) pa_nil))) (pe_callB (r := rIsi K) call_isi (by rfl) T.isinstanceN (by decide +kernel) (pa_cons (pv 1) (pa_cons (pe_bltn (v := .ty "list") (by rfl) T.listN (by decide +kernel) rfl) pa_nil))) (nomark _)) (pw_or1 (pt_cmpR op_ne (pe_callB (r := rIsi K) call_isi (by rfl) T.isinstanceN (by decide +kernel) (pa_cons (pv 0) (pa_cons (pe_bltn (v := .ty "tuple") (by rfl) T.tupleN (by decide +kernel) rfl) pa_nil))) (pe_callB (r := rIsi K) call_isi (by rfl) T.isinstanceN (by decide +kernel) (pa_cons (pv 1) (pa_cons (pe_bltn (v := .ty "tuple") (by rfl) T.tupleN (by decide +kernel) rfl) pa_nil))) (nomark _))))) (pss_one (ps_ret pe_bl)) pss_nil)
      (pss_one (ps_ret (pe_and (pe_cmpR op_eq (pe_callB (r := rLenX K) call_lenX (by rfl) T.lenN (by decide +kernel) (pa_cons (pv 0) pa_nil)) (pe_callB (r := rLenX K) call_lenX (by rfl) T.lenN (by decide +kernel) (pa_cons (pv 1) pa_nil)) (nomark _)) (pe_one (pe_callB (r := rAll K) (cr_all rfl) (by rfl) T.allN (by decide +kernel) (pa_cons (pe_lc (own := [("_law_mine", 2), ("_law_its", 3)]) (g := (gTup K 2 (gCons (gName 2) (gCons (gName 3) gNil)))) rfl scLawSame.nd (RZ.pi_zipA (by rfl) T.zipN (pa_cons (pv 0) (pa_cons (pv 1) pa_nil))) (blkOk_by (N := ["_law_got", "_law_due", "_law_mine", "_law_its"]) (sc := defScope sLawSame) (by decide +kernel)) (fun _ _ _ _ _ => (pg_tup rfl (pgs_cons (pg_name (i := 2) scLawSame.nd rfl (Or.inl rfl)) (pgs_cons (pg_name (i := 3) scLawSame.nd rfl (Or.inl rfl)) pgs_nil)))) (fun _ _ _ _ _ => pts_nil) (fun _ _ _ _ _ => (pe_cal O__law_same hr (pa_cons (pv 2) (pa_cons (pv 3) pa_nil))))) pa_nil))))))) pss_nil)
      (pss_cons (ps_if (PW.pt (pw_or (pt_cmp (pc_isN (pv 1))) (pw_or1 (pt_val (pe_callB (r := rIsiT K) call_isiT (by rfl) T.isinstanceN (by decide +kernel) (pa_cons (pv 1) (pa_cons (pe_tup (pa_cons (pe_bltn (v := .ty "bool") (by rfl) T.boolN (by decide +kernel) rfl) (pa_cons (pe_bltn (v := .ty "str") (by rfl) T.strN (by decide +kernel) rfl) pa_nil))) pa_nil))))))) (pss_one (ps_ret (pe_and (pe_cmpR op_eq (pv 0) (pv 1) (nomark _)) (pe_and (pe_cmpR op_eq (pe_callB (r := rIsi K) call_isi (by rfl) T.isinstanceN (by decide +kernel) (pa_cons (pv 0) (pa_cons (pe_bltn (v := .ty "bool") (by rfl) T.boolN (by decide +kernel) rfl) pa_nil))) (pe_callB (r := rIsi K) call_isi (by rfl) T.isinstanceN (by decide +kernel) (pa_cons (pv 1) (pa_cons (pe_bltn (v := .ty "bool") (by rfl) T.boolN (by decide +kernel) rfl) pa_nil))) (nomark _)) (pe_one (pe_cmpR op_eq (pe_cmp (pc_isN (pv 0))) (pe_cmp (pc_isN (pv 1))) (nomark _))))))) pss_nil)
      (pss_one (ps_ret (pe_and (pe_callB (r := rIsi K) call_isi (by rfl) T.isinstanceN (by decide +kernel) (pa_cons (pv 0) (pa_cons (pe_bltn (v := .ty "int") (by rfl) T.intN (by decide +kernel) rfl) pa_nil))) (pe_and (pe_not (pe_callB (r := rIsi K) call_isi (by rfl) T.isinstanceN (by decide +kernel) (pa_cons (pv 0) (pa_cons (pe_bltn (v := .ty "bool") (by rfl) T.boolN (by decide +kernel) rfl) pa_nil)))) (pe_one (pe_cmpR op_eq (pv 0) (pv 1) (nomark _)))))))), fun ds d h => ?_⟩)
    obtain ⟨x, hx, rfl, rfl⟩ := h
    obtain hs | ⟨m, es, e, he, hl, hes⟩ := okT_scal hx
    · refine bg_if0 (tg_is (tg_B (eg_isi2 (eg_var rfl))) (by cases x <;> first | rfl | cases hs)) ?_
      refine bg_if (tg_or (tg_T (eg_isN2 (eg_var rfl))) fun _ => tg_B (eg_isi2 (eg_var rfl))) (fun _ => bg_ret (eg_is (eg_and (eg_eqSame (eg_var rfl) (eg_var rfl) hs) fun _ => eg_and (eg_eqB (eg_isi (eg_var rfl)) (eg_isi (eg_var rfl))) fun _ => eg_eqB (eg_isN2 (eg_var rfl)) (eg_isN2 (eg_var rfl))) ?_)) fun h => bg_ret (eg_is (eg_and (eg_isi (eg_var rfl)) fun _ => eg_and (eg_not (eg_isi (eg_var rfl))) fun _ => eg_eqSame (eg_var rfl) (eg_var rfl) hs) ?_)
      · rw [yes_dec, yes_dec]
        rfl
      · cases x with
        | int i => rfl
        | none => cases h
        | bool b => cases h
        | str b => cases h
        | list _ => cases hs
        | tuple _ => cases hs
        | dict _ => cases hs
    · cases e
      have all : (es.map fun _ => true).all id = true := by
        rw [List.all_map, List.all_eq_true]
        intro _ _
        rfl
      rcases he with rfl | rfl
      · refine bg_if1 (tg_is (tg_B (eg_isi2 (eg_var rfl))) rfl) (bg_if0 (tg_is (tg_or (tg_T (eg_neB (eg_isi (eg_var rfl)) (eg_isi (eg_var rfl)))) fun _ => tg_T (eg_neB (eg_isi (eg_var rfl)) (eg_isi (eg_var rfl)))) (by rw [not_dec, not_dec]; rfl)) (bg_ret (eg_is (eg_and (eg_eqI (eg_lenXL (eg_var rfl)) (eg_lenXL (eg_var rfl))) fun _ => eg_all (bs := es.map fun _ => true) (eg_is (eg_lc (js := [2, 3]) (α := PyData) (enc := fun x => .tuple [x, x]) (xs := es) (src_is (src_zipL (ag_cons (eg_var rfl) (ag_cons (eg_var rfl) ag_nil))) (by rw [zip_self, List.map_map]; rfl))
          (fun x => [.dat (.list es), .dat (.list es), .dat x, .dat x]) (fun x _ => bnd_two) (fun _ => .bool true) hl fun x hm => eg_call (ag_cons (eg_var rfl) (ag_cons (eg_var rfl) ag_nil)) ⟨x, hes x hm, rfl, rfl⟩) (by rw [List.map_map]; rfl))) ?_)))
        rw [all, decide_eq_true rfl]
        rfl
      · refine bg_if1 (tg_is (tg_B (eg_isi2 (eg_var rfl))) rfl) (bg_if0 (tg_is (tg_or (tg_T (eg_neB (eg_isi (eg_var rfl)) (eg_isi (eg_var rfl)))) fun _ => tg_T (eg_neB (eg_isi (eg_var rfl)) (eg_isi (eg_var rfl)))) (by rw [not_dec, not_dec]; rfl)) (bg_ret (eg_is (eg_and (eg_eqI (eg_lenXT (eg_var rfl)) (eg_lenXT (eg_var rfl))) fun _ => eg_all (bs := es.map fun _ => true) (eg_is (eg_lc (js := [2, 3]) (α := PyData) (enc := fun x => .tuple [x, x]) (xs := es) (src_is (src_zipT (ag_cons (eg_var rfl) (ag_cons (eg_var rfl) ag_nil))) (by rw [zip_self, List.map_map]; rfl))
          (fun x => [.dat (.tuple es), .dat (.tuple es), .dat x, .dat x]) (fun x _ => bnd_two) (fun _ => .bool true) hl fun x hm => eg_call (ag_cons (eg_var rfl) (ag_cons (eg_var rfl) ag_nil)) ⟨x, hes x hm, rfl, rfl⟩) (by rw [List.map_map]; rfl))) ?_)))
        rw [all, decide_eq_true rfl]
        rfl
end
end HR

set_option Elab.async false
set_option linter.all false
set_option maxRecDepth 100000
set_option maxHeartbeats 4000000
namespace HR
open PySem PySem.Spec PyProof.Rows L2 Evl
theorem enc_shaped {r : Rec} (h : recOk r = true) : PyData.canLay0 (enc r) = true ∧ PyData.depth (enc r) ≤ 5 := by
  cases r with
  | blank =>
    constructor
    · show PyData.canLay0 (.tuple [.str "blank"]) = true
      decide +kernel
    · show PyData.depth (.tuple [.str _]) ≤ 5
      simp [PyData.depth, PyData.depthAll]
  | put k w p l =>
    obtain ⟨h1, h2⟩ := Bool.and_eq_true_iff.mp (show (wordOk k && wordOk w) = true from h)
    constructor
    · show PyData.canLay0 (.tuple [.str "put", .str k, .str w, .int _, .int _]) = true
      have h3 : PyData.strOk "put" = true := by decide +kernel
      simp [PyData.canLay0, PyData.canLayAll0, word_str h1, word_str h2, h3]
    · show PyData.depth (.tuple [.str _, .str _, .str _, .int _, .int _]) ≤ 5
      simp [PyData.depth, PyData.depthAll]
  | drop k p l =>
    have h1 : wordOk k = true := h
    constructor
    · show PyData.canLay0 (.tuple [.str "drop", .str k, .int _, .int _]) = true
      have h3 : PyData.strOk "drop" = true := by decide +kernel
      simp [PyData.canLay0, PyData.canLayAll0, word_str h1, h3]
    · show PyData.depth (.tuple [.str _, .str _, .int _, .int _]) ≤ 5
      simp [PyData.depth, PyData.depthAll]
theorem rec_shaped {r : Rec} (h : recOk r = true) : SeqAt.shaped (enc r) = true := by
  obtain ⟨h1, h2⟩ := enc_shaped h
  unfold SeqAt.shaped
  rw [h1, Bool.true_and]
  exact decide_eq_true (by omega)
theorem blank_shaped : SeqAt.shaped (enc .blank) = true := rec_shaped (r := .blank) rfl
theorem encs_shaped : ∀ {rs : List Rec}, (∀ r ∈ rs, recOk r = true) → PyData.canLayAll0 (rs.map enc) = true ∧ PyData.depthAll (rs.map enc) ≤ 5
  | [], _ => ⟨by simp [PyData.canLayAll0], by simp [PyData.depthAll]⟩
  | r :: rs, h => by
    obtain ⟨h1, h2⟩ := encs_shaped (rs := rs) fun d hd => h d (List.mem_cons_of_mem _ hd)
    obtain ⟨h3, h4⟩ := enc_shaped (h r List.mem_cons_self)
    rw [List.map_cons]
    constructor
    · rw [PyData.canLayAll0, h3, h1]
      rfl
    · rw [PyData.depthAll]
      exact Nat.max_le.mpr ⟨h4, h2⟩
theorem recs_shaped {rs : List Rec} (h : ∀ r ∈ rs, recOk r = true) : SeqAt.shaped (.list (rs.map enc)) = true := by
  obtain ⟨h1, h2⟩ := encs_shaped h
  unfold SeqAt.shaped
  rw [PyData.canLay0, h1, PyData.depth, Bool.true_and]
  exact decide_eq_true (by omega)
theorem nil_shaped : SeqAt.shaped (.list []) = true := recs_shaped (rs := []) fun r hr => by cases hr
theorem eqv_blank (r : Rec) : PyData.eqv (enc r) (enc .blank) = r.isBlank := by
  cases r with
  | blank => decide +kernel
  | put k w p l =>
    show PyData.eqv (.tuple [.str "put", .str k, .str w, .int _, .int _]) (.tuple [.str "blank"]) = false
    simp [PyData.eqv, PyData.eqvAll]
  | drop k p l =>
    show PyData.eqv (.tuple [.str "drop", .str k, .int _, .int _]) (.tuple [.str "blank"]) = false
    simp [PyData.eqv, PyData.eqvAll]
theorem eqv_nilL (ds : List PyData) : PyData.eqv (.list ds) (.list []) = ds.isEmpty := by
  cases ds with
  | nil => simp [PyData.eqv, PyData.eqvAll]
  | cons d l => simp [PyData.eqv, PyData.eqvAll]
section
variable {K : PySem.W.Frag} {H0 H : Hp} {M L : List Addr} {σ : L2.St} {Γ : Ctx} {tb tz : TS} {c : TT} {D : Ends}
/-- a loop by a test, its number going down; both ways out joined -/
theorem sg_while {β : Type} (Γw : Nat → Ctx) (I : Nat → Prop) (b : Nat → Bool) (Γj : β → Ctx) (R : β → Prop) (n0 : Nat) (i0 : I n0) (E : Env K H0 M L σ H (Γw n0)) (hc : ∀ n, I n → QG K c (Γw n) (b n))
    (body : ∀ n σ' H' (N BK : L2.St → Hp → Prop), I n → b n = true → Env K H0 M L σ' H' (Γw n) → (∀ n' σ'' H'', n' < n → I n' → Env K H0 M L σ'' H'' (Γw n') → N σ'' H'') → (∀ j σ'' H'', R j → Env K H0 M L σ'' H'' (Γj j) → BK σ'' H'') → tb { D with nx := N, ct := N, bk := BK } σ' H')
    (done : ∀ n σ' H', I n → b n = false → Env K H0 M L σ' H' (Γw n) → ∃ j, R j ∧ Env K H0 M L σ' H' (Γj j))
    (rest : ∀ j σ' H', R j → Env K H0 M L σ' H' (Γj j) → tz D σ' H') : tSeq (tWhile c tb) tz D σ H := by
  refine ⟨fun m σ H => I m ∧ Env K H0 M L σ H (Γw m), ⟨n0, i0, E⟩, ?_⟩
  rintro m σ H ⟨im, Em⟩
  refine hc m im H0 M L σ H Em _ fun H1 e1 => ?_
  have E1 := Em.mono e1
  cases hb : b m with
  | true =>
    rw [if_pos rfl]
    exact ⟨fun σ' H' => ∃ m', m' < m ∧ I m' ∧ Env K H0 M L σ' H' (Γw m'), fun σ' H' h => h, body m σ H1 _ _ im hb E1 (fun n' σ'' H'' h1 h2 h3 => ⟨n', h1, h2, h3⟩) rest⟩
  | false =>
    rw [if_neg Bool.false_ne_true]
    obtain ⟨j, r, Ej⟩ := done m σ H1 im hb E1
    exact rest j σ H1 r Ej
theorem sg_par {i j : Nat} {ta : TA} {d1 d2 : PyData} (E : Env K H0 M L σ H Γ) (h : AG K ta Γ [d1, d2]) (k : ∀ σ' H', Ex H H' → Env K H0 M L σ' H' ((Γ.set i (.dat d1)).set j (.dat d2)) → tz D σ' H') (hi : i < Γ.length := by exact Nat.le_of_ble_eq_true rfl) (hj : j < Γ.length := by exact Nat.le_of_ble_eq_true rfl) : tSeq (tPar i j ta) tz D σ H := by
  refine h H0 M L σ H E _ fun vs H1 e1 h1 => ?_
  obtain ⟨v, v', rfl, hv, hv'⟩ := ag_2 h1
  exact ⟨v, v', rfl, k _ H1 e1 (((E.mono e1).set hi hv).set (by rw [List.length_set]; exact hj) hv')⟩
end
/-- the records from n up to i -/
def seg (rs : List Rec) (i n : Nat) : List Rec := (rs.drop n).take (i + 1 - n)
theorem seg_cons {rs : List Rec} {i n : Nat} (hi : i < rs.length) (hn : n ≤ i) : seg rs i n = recAt rs n :: seg rs i (n + 1) := by
  unfold seg
  have h : n < rs.length := by omega
  rw [List.drop_eq_getElem_cons h, show i + 1 - n = (i + 1 - (n + 1)) + 1 by omega, List.take_succ_cons]
  congr 1
  have := recAt_get h
  rw [List.getElem?_eq_getElem h] at this
  exact Option.some.inj this
def lawClosedD (rs : List Rec) (n : Nat) : List PyData := (closing rs n).map fun i => .tuple [.int (i : Nat), .list ((lotAt rs i).map enc)]
section
variable {P : Program} {w : World} {K : PySem.W.Frag} {mg : Str → Option Value} {base : Heap}
theorem scLawClosed : FnScope ["_law_notes_so", "_law_found", "_law_k", "_law_own", "_law_parts_so", "_law_n", "_law_its"] ["_law_notes_so"] (defScope sLawClosed) := ⟨rfl, rfl, rfl, by decide +kernel, rfl, by decide +kernel, by decide +kernel⟩
def PLawClosed (ds : List PyData) (d : PyData) : Prop := ∃ rs : List Rec, rs.length ≤ 40 ∧ (∀ r ∈ rs, recOk r = true) ∧ ds = [rowD rs] ∧ d = .list (lawClosedD rs rs.length)
theorem ok__law_closed (T : Top K mg) : Ok P w K mg base 2 "_law_closed" ["_law_notes_so"] (spD K PLawClosed) := by
  have O__law_blank : Ok P w K mg base 1 _ _ _ := ok__law_blank T
  refine ok_def T 37 37 scLawClosed (fun vs H Q E h => by obtain ⟨L, ds, d, _, hd, ⟨rs, _, _, rfl, _⟩, _⟩ := h; rw [dps_len hd]; rfl) (fun _ _ _ _ _ _ us hl => match us, hl with | [_], _ => rfl) (fun cdv A outer s H vs Q E hr h => ?_)
  obtain ⟨L, ds, d, hl, hd, ⟨rs, hn, hg, rfl, rfl⟩, q⟩ := h
  refine ⟨_, pss_cons (ps_set (i := 1) scLawClosed.nd rfl (.inl rfl) (pe_lst pa_nil))
      (pss_cons (ps_for PassesOwn.never rfl (pi_enumT (by rfl) T.enumerateN (pa_cons (pv 0) pa_nil)) (pg_tup rfl (pgs_cons (pg_name (i := 2) scLawClosed.nd rfl (Or.inl rfl)) (pgs_cons (pg_name (i := 3) scLawClosed.nd rfl (Or.inl rfl)) pgs_nil)))
      (pss_cons (ps_if (PW.pt (pw_or (pt_cmpR (r := rEqD K) (op_eqD hr.units) (pv 3) (pe_cal0 O__law_blank hr) (nomark _)) (pw_or1 (pt_cmpR op_ne (pe_ix (r := rIxT K) ix_tup (pv 3) (pe_un un_neg pe_int) (fun _ _ => rfl)) pe_int (nomark _))))) (pss_one ps_continue) pss_nil)
      (pss_cons (ps_par (i := 4) (j := 5) (by rfl) scLawClosed.nd rfl rfl (by decide) rfl rfl (pa_cons (pe_lst (pa_cons (pv 3) pa_nil)) (pa_cons (pv 2) pa_nil)) (by rfl))
      (pss_cons (ps_while PassesOwn.never (PW.pt (pw_and (pt_cmpR op_gt (pe_ix (r := rIxT K) ix_tup (pe_ix (r := rIxL K) ix_list (pv 4) pe_int (fun _ _ => rfl)) (pe_un un_neg pe_int) (fun _ _ => rfl)) pe_int (nomark _)) (pw_and1 (pt_cmpR op_gt (pv 5) pe_int (nomark _)))))
      (pss_cons (ps_set (i := 5) scLawClosed.nd rfl (.inl rfl) (pe_op op_sub (pv 5) pe_int))
      (pss_cons (ps_set (i := 6) scLawClosed.nd rfl (.inl rfl) (pe_ix (r := rIxT K) ix_tup (pv 0) (pv 5) (fun _ _ => rfl)))
      (pss_cons (ps_if (PW.pt (pw_or (pt_cmpR (r := rEqD K) (op_eqD hr.units) (pv 6) (pe_cal0 O__law_blank hr) (nomark _)) (pw_or (pt_cmpR op_ne (pe_ix (r := rIxT K) ix_tup (pv 6) (pe_un un_neg pe_int) (fun _ _ => rfl)) (pe_op op_sub (pe_ix (r := rIxT K) ix_tup (pe_ix (r := rIxL K) ix_list (pv 4) pe_int (fun _ _ => rfl)) (pe_un un_neg pe_int) (fun _ _ => rfl)) pe_int) (nomark _)) (pw_or1 (pt_cmpR op_ne (pe_ix (r := rIxT K) ix_tup (pv 6) (pe_un un_neg pe_int) (fun _ _ => rfl)) (pe_op op_add (pe_ix (r := rIxT K) ix_tup (pe_ix (r := rIxL K) ix_list (pv 4) pe_int (fun _ _ => rfl)) (pe_un un_neg pe_int) (fun _ _ => rfl)) pe_int) (nomark _)))))) (pss_cons (ps_set (i := 4) scLawClosed.nd rfl (.inl rfl) (pe_lst pa_nil))
      (pss_one ps_break)) pss_nil)
      (pss_one (ps_set (i := 4) scLawClosed.nd rfl (.inl rfl) (pe_op (r := rCatS K) op_catS (pe_lst (pa_cons (pv 6) pa_nil)) (pv 4))))))))
      (pss_one (ps_if (pt_cmpR (r := rNeD K) (op_neD hr.units) (pv 4) (pe_lst pa_nil) (nomark _)) (pss_one (ps_expr (pe_bm PySem.F.plainAttrs_list PySem.F.slot_list_append PySem.F.type_list_append mt_append (pv 1) (pa_cons (pe_tup (pa_cons (pv 2) (pa_cons (pv 4) pa_nil))) pa_nil)))) pss_nil))))))
      (pss_one (ps_ret (pv 1)))), ?_⟩
  have E1 := env_start (N := ["_law_notes_so", "_law_found", "_law_k", "_law_own", "_law_parts_so", "_law_n", "_law_its"]) hl hd
  refine sg_newL E1 fun p σ2 H2 hp np e2 E2 => ?_
  refine sg_for (α := Rec × Nat) (enc := fun x => .tuple [.int (x.2 : Nat), enc x.1]) (xs := rs.zipIdx) (js := [2, 3]) (fun i => [.dat (rowD rs), .lst p (lawClosedD rs i), .no, .no, .no, .no, .no]) (fun i x => [.dat (rowD rs), .lst p (lawClosedD rs i), .dat (.int (x.2 : Nat)), .dat (enc x.1), .no, .no, .no]) E2
    (src_is (src_enumT (ag_cons (eg_var rfl) ag_nil)) (by rw [List.zipIdx_map, List.map_map]; rfl)) (fun i x _ => bnd_two) ?_ ?_
  · intro i x B' σ3 H3 N hx hB E3 hN
    have hi : i < rs.length := by
      have := (List.getElem?_eq_some_iff.mp hx).1
      rwa [List.length_zipIdx] at this
    have ex : x = (recAt rs i, i) := by
      rw [List.getElem?_zipIdx, recAt_get hi] at hx
      have := Option.some.inj hx
      rw [← this, Nat.zero_add]
    subst ex
    have hri := hg _ (rec_mem hi)
    have hcl := parts_le rs i
    have hlc := closing_len rs i
    refine sg_if (b := (recAt rs i).isBlank || !decide ((recAt rs i).left = 0)) E3 ?tst (fun hb H4 e4 E4 => ?_) fun hb H4 e4 E4 => ?_
    case tst =>
      refine tg_is (tg_or (tg_T (eg_eq (eg_var rfl) (eg_call (P := PBlank) ag_nil ⟨rfl, rfl⟩) (rec_shaped hri) blank_shaped)) fun h => tg_T (eg_neI (eg_ixT (eg_var rfl) (eg_U eg_int) (at_m1 ?_)) eg_int)) ?_
      · rw [eqv_blank] at h
        exact h
      · rw [eqv_blank]
        have : decide (((recAt rs i).left : Int) = 0) = decide ((recAt rs i).left = 0) := by
          rw [decide_eq_decide]
          omega
        rw [this]
    · have hc : ¬ 0 < partsClosed rs i := by
        unfold partsClosed
        rw [if_pos hb]
        omega
      refine hN _ _ ?_
      have hd1 : lawClosedD rs (i + 1) = lawClosedD rs i := by
        unfold lawClosedD
        rw [closing_no hc]
      rw [hd1]
      exact (E4.forget 2).forget 3
    · obtain ⟨hb1, hb2⟩ := Bool.or_eq_false_iff.mp hb
      rw [Bool.not_eq_false'] at hb2
      have hleft := of_decide_eq_true hb2
      have hpc : partsClosed rs i = if (List.range (min (recAt rs i).place i)).all (partOk rs i (recAt rs i).place) then min (recAt rs i).place i + 1 else 0 := by
        unfold partsClosed
        rw [if_neg (by rw [hb]; exact Bool.false_ne_true)]
      generalize hP : (recAt rs i).place = pl at hpc
      refine sg_par (d1 := .list [enc (recAt rs i)]) (d2 := .int (i : Nat)) E4 (ag_cons (eg_lst (ag_cons (eg_var rfl) ag_nil)) (ag_cons (eg_var rfl) ag_nil)) fun σ5 H5 e5 E5 => ?_
      refine sg_while (K := K) (H0 := B') (M := [p]) (L := p :: L) (β := List Rec) (fun n => [.dat (rowD rs), .lst p (lawClosedD rs i), .dat (.int (i : Nat)), .dat (enc (recAt rs i)), .dat (.list ((seg rs i n).map enc)), .dat (.int (n : Nat)), .no])
        (fun n => n ≤ i ∧ i - n ≤ pl ∧ (recAt rs n).isBlank = false ∧ (recAt rs n).place = pl - (i - n) ∧ (recAt rs n).left = i - n ∧ ∀ j, j < i - n → partOk rs i pl j = true)
        (fun n => decide (pl - (i - n) > 0) && decide (n > 0))
        (fun us => [.dat (rowD rs), .lst p (lawClosedD rs i), .dat (.int (i : Nat)), .dat (enc (recAt rs i)), .dat (.list (us.map enc)), .no, .no])
        (fun us => (us = [] ∧ partsClosed rs i = 0) ∨ (us = lotAt rs i ∧ 0 < partsClosed rs i)) i ?init ?env0 ?test ?body ?done ?rest
      case init => exact ⟨Nat.le_refl _, by omega, hb1, by rw [hP]; omega, by omega, fun j hj => by omega⟩
      case env0 =>
        have e : seg rs i i = [recAt rs i] := by
          rw [seg_cons hi (Nat.le_refl _)]
          unfold seg
          rw [Nat.sub_self, List.take_zero]
        rw [e]
        exact E5
      case test =>
        rintro n ⟨h1, h2, h3, h4, h5, h6⟩
        refine tg_is (tg_and (tg_T (eg_IB (eg_ixT (eg_ixL (d := enc (recAt rs n)) (eg_var rfl) eg_int ?_) (eg_U eg_int) (at_m2 h3)) eg_int)) fun _ => tg_T (eg_IB (eg_var rfl) eg_int)) ?_
        · rw [seg_cons hi h1]
          exact atI_nat (j := 0) rfl
        · congr 1
          · rw [decide_eq_decide, h4]
            omega
          · rw [decide_eq_decide]
            omega
      case body =>
        rintro n σ6 H6 N2 BK ⟨h1, h2, h3, h4, h5, h6⟩ hbn E6 hN2 hBK
        obtain ⟨g1, g2⟩ := Bool.and_eq_true_iff.mp hbn
        have g1 := of_decide_eq_true g1
        have g2 := of_decide_eq_true g2
        refine sg_asg (d := .int ((n - 1 : Nat) : Int)) E6 (eg_is (eg_II (eg_var rfl) eg_int) (by congr 1; omega)) fun σ7 H7 e7 E7 => ?_
        refine sg_asg (d := enc (recAt rs (n - 1))) E7 (eg_ixT (eg_var rfl) (eg_var rfl) (at_row rfl (by omega))) fun σ8 H8 e8 E8 => ?_
        have hrn := hg _ (rec_mem (show n - 1 < rs.length by omega))
        have hpo : partOk rs i pl (i - n) = true ↔ (recAt rs (n - 1)).isBlank = false ∧ (recAt rs (n - 1)).place = pl - (1 + (i - n)) ∧ (recAt rs (n - 1)).left = 1 + (i - n) := by
          have := partOk_iff (rs := rs) (i := i) (p := pl) (j := i - n) (by omega)
          rwa [show i - (1 + (i - n)) = n - 1 by omega] at this
        have first : atI ((seg rs i n).map enc) 0 = some (enc (recAt rs n)) := by
          rw [seg_cons hi h1]
          exact atI_nat (j := 0) rfl
        refine sg_if (b := !partOk rs i pl (i - n)) E8 ?tst2 (fun hq H9 e9 E9 => ?_) fun hq H9 e9 E9 => ?_
        case tst2 =>
          refine tg_is (tg_or (y := !(decide ((recAt rs (n - 1)).place = pl - (1 + (i - n))) && decide ((recAt rs (n - 1)).left = 1 + (i - n)))) (tg_T (eg_eq (eg_var rfl) (eg_call (P := PBlank) ag_nil ⟨rfl, rfl⟩) (rec_shaped hrn) blank_shaped)) fun h => ?_) ?_
          · rw [eqv_blank] at h
            refine tg_is (tg_or (tg_T (eg_neI (eg_ixT (eg_var rfl) (eg_U eg_int) (at_m2 h)) (eg_II (eg_ixT (eg_ixL (eg_var rfl) eg_int first) (eg_U eg_int) (at_m2 h3)) eg_int))) fun _ => tg_T (eg_neI (eg_ixT (eg_var rfl) (eg_U eg_int) (at_m1 h)) (eg_II (eg_ixT (eg_ixL (eg_var rfl) eg_int first) (eg_U eg_int) (at_m1 h3)) eg_int))) ?_
            rw [Bool.not_and]
            congr 2
            · rw [decide_eq_decide, h4]
              omega
            · rw [decide_eq_decide, h5]
              omega
          · rw [eqv_blank, Bool.eq_iff_iff, Bool.or_eq_true, Bool.not_eq_true', Bool.not_eq_true', Bool.and_eq_false_iff, decide_eq_false_iff_not, decide_eq_false_iff_not]
            constructor
            · intro h
              by_cases q : partOk rs i pl (i - n) = true
              · obtain ⟨q1, q2, q3⟩ := hpo.mp q
                rcases h with h | h | h
                · rw [q1] at h
                  cases h
                · exact absurd q2 h
                · exact absurd q3 h
              · exact Bool.not_eq_true _ ▸ q
            · intro h
              by_cases q1 : (recAt rs (n - 1)).isBlank = true
              · exact .inl q1
              · by_cases q2 : (recAt rs (n - 1)).place = pl - (1 + (i - n))
                · by_cases q3 : (recAt rs (n - 1)).left = 1 + (i - n)
                  · have := hpo.mpr ⟨Bool.not_eq_true _ ▸ q1, q2, q3⟩
                    rw [h] at this
                    cases this
                  · exact .inr (.inr q3)
                · exact .inr (.inl q2)
        · rw [Bool.not_eq_true'] at hq
          refine sg_asg (d := .list ([] : List PyData)) E9 (eg_lst ag_nil) fun σ10 H10 e10 E10 => ?_
          refine hBK [] _ _ (.inl ⟨rfl, ?_⟩) ((E10.forget 5).forget 6)
          rw [hpc, if_neg]
          intro hall
          have := List.all_eq_true.mp hall (i - n) (List.mem_range.mpr (by omega))
          rw [hq] at this
          cases this
        · rw [Bool.not_eq_false'] at hq
          obtain ⟨q1, q2, q3⟩ := hpo.mp hq
          refine sl_asg (d := .list ((seg rs i (n - 1)).map enc)) E9 (eg_is (eg_catL (eg_lst (ag_cons (eg_var rfl) ag_nil)) (eg_var rfl) ?_) ?_) fun σ10 H10 e10 E10 => ?_
          · rw [List.length_map]
            unfold seg
            rw [List.length_take, List.length_drop, List.length_singleton]
            omega
          · rw [seg_cons hi (show n - 1 ≤ i by omega), show n - 1 + 1 = n by omega]
            rfl
          · refine hN2 (n - 1) _ _ (by omega) ⟨by omega, by omega, q1, by omega, by omega, fun j hj => ?_⟩ (E10.forget 6)
            by_cases hj2 : j < i - n
            · exact h6 j hj2
            · rw [show j = i - n by omega]
              exact hq
      case done =>
        rintro n σ6 H6 ⟨h1, h2, h3, h4, h5, h6⟩ hbn E6
        have hm : i - n = min pl i := by
          rcases Bool.and_eq_false_iff.mp hbn with h | h
          · have := of_decide_eq_false h
            omega
          · have := of_decide_eq_false h
            omega
        have hp2 : partsClosed rs i = min pl i + 1 := by
          rw [hpc, if_pos]
          rw [List.all_eq_true]
          intro j hj
          exact h6 j (by have := List.mem_range.mp hj; omega)
        refine ⟨lotAt rs i, .inr ⟨rfl, by omega⟩, ?_⟩
        have es : seg rs i n = lotAt rs i := by
          unfold seg lotAt
          rw [hp2]
          congr 2 <;> omega
        rw [es] at E6
        exact E6.forget 5
      case rest =>
        intro us σ6 H6 hus E6
        have hgu : ∀ r ∈ us, recOk r = true := by
          rcases hus with ⟨rfl, _⟩ | ⟨rfl, _⟩
          · intro r hr
            cases hr
          · intro r hr
            exact hg r (List.mem_of_mem_drop (List.mem_of_mem_take hr))
        refine sl_if E6 (tg_T (eg_ne (eg_var rfl) (eg_lst ag_nil) (recs_shaped hgu) nil_shaped)) (fun hb H7 e7 E7 => ?_) fun hb H7 e7 E7 => ?_
        · rw [eqv_nilL] at hb
          rcases hus with ⟨rfl, _⟩ | ⟨rfl, hc⟩
          · cases hb
          · refine sl_app (d := .tuple [.int (i : Nat), .list ((lotAt rs i).map enc)]) E7 rfl List.mem_cons_self (eg_tup (ag_cons (eg_var rfl) (ag_cons (eg_var rfl) ag_nil))) ?_ fun H8 E8 => ?_
            · unfold lawClosedD
              rw [List.length_map]
              omega
            · refine hN _ _ ?_
              have hd1 : lawClosedD rs (i + 1) = lawClosedD rs i ++ [.tuple [.int (i : Nat), .list ((lotAt rs i).map enc)]] := by
                unfold lawClosedD
                rw [closing_yes hc, List.map_append]
                rfl
              rw [hd1]
              exact ((E8.forget 2).forget 3).forget 4
        · rw [eqv_nilL] at hb
          rcases hus with ⟨rfl, hc⟩ | ⟨rfl, hc⟩
          · refine hN _ _ ?_
            have hd1 : lawClosedD rs (i + 1) = lawClosedD rs i := by
              unfold lawClosedD
              rw [closing_no (by omega)]
            rw [hd1]
            exact ((E7.forget 2).forget 3).forget 4
          · have := lot_len hi
            cases e : lotAt rs i with
            | nil =>
              rw [e] at this
              rw [← this] at hc
              exact absurd hc (Nat.lt_irrefl _)
            | cons r l =>
              rw [e] at hb
              cases hb
  · intro σ3 H3 E3
    rw [List.length_zipIdx] at E3
    refine sl_retL E3 rfl fun vs h1 h2 => ?_
    obtain ⟨r1, r2⟩ := end_list E3 np h1 h2
    exact q _ _ r1 r2
end
end HR

set_option Elab.async false
set_option linter.all false
set_option maxRecDepth 100000
set_option maxHeartbeats 4000000
namespace HR
open PySem PySem.Spec PyProof.Rows L2 Evl
/-! ### a tuple known to its object, and a dict of it -/
def rTupZ (K : PySem.W.Frag) : List V → Hp → VK → Prop := fun xs H Q => ∃ p ys, xs = [.ref p] ∧ SqL K H p ys ∧ ∀ l ob, H l = none → ob.dict = none → Q (.ref l) (upd H l (.frz ob (.tup ys)))
theorem call_tupZ {X : Cx} : CallR X (.type "tuple") (rTupZ X.K) := by
  intro pins s σ H xs us Q I r h
  obtain ⟨p, ys, rfl, hq, q⟩ := h
  obtain ⟨u, rfl, rx⟩ := vals1 r
  cases rx
  obtain ⟨its, r', pl, hz⟩ := I.list hq
  have hlen := r'.length
  refine call_tuple_list pl.isList (fun h' kp => ?_) (by simp only [List.size_toArray] <;> omega)
  have I1 : Inv X pins σ H { s with heap := h' } := I.kept (t' := s.toks) kp
  have I2 : Inv X pins σ (upd H h'.objs.size (.frz { cls := .type "tuple", data := .seq its.toArray } (.tup ys))) { s with heap := h'.push { cls := .type "tuple", data := .seq its.toArray } } :=
    I1.laid (t' := s.toks) (fun b o e => Heap.get?_push_of_some _ e) (Nat.le_refl _) (show ObjOk X.prog X.w _ _ _ (.frz _ (.tup ys)) from ⟨Heap.get?_push_size _ rfl, hz, its, r', IsTup.new _ _⟩)
  exact ⟨.ref h'.objs.size, _, I2, rfl, q _ _ (I1.hok.fresh (Nat.le_refl _)) rfl⟩
def rDictT (K : PySem.W.Frag) : List V → Hp → VK → Prop := fun xs H Q => ∃ (a : Addr) (ob : Obj) (ps : List Addr) (kvs : List (Key × V)), xs = [.ref a] ∧ H a = some (.frz ob (.tup (ps.map V.ref))) ∧ ob.dict = none ∧ Paired (fun p kv => SqT K H p [kV kv.1, kv.2]) ps kvs ∧
  ∀ p, H p = none → Q (.ref p) (upd H p (.dK (mergeK [] kvs)))
/-- the pairs, as values -/
theorem pairs_of2 {X : Cx} {pins : List (Addr × Obj)} {σ : L2.St} {H : Hp} {s : Shared} (I : Inv X pins σ H s) : ∀ {ps : List Addr} {kvs : List (Key × V)}, Paired (fun p kv => SqT X.K H p [kV kv.1, kv.2]) ps kvs →
    ∃ (prs : List (Key × Value)) (vps : List (Value × Value)), KV kvs prs ∧ prs.length = ps.length ∧ vps.length = ps.length ∧ ∀ (j : Nat) (q : Key × Value), prs[j]? = some q → ∃ (b : Addr) (u : Value), ps[j]? = some b ∧ vps[j]? = some (u, q.2) ∧ IsTup s.heap b #[u, q.2] ∧ keyIs q.1 u = true
  | _, _, .nil => ⟨[], [], .nil, rfl, rfl, fun j q e => by simp at e⟩
  | _, _, .cons (a := p) (b := kv) h t => by
    obtain ⟨prs, vps, r, hl, hl2, hp⟩ := pairs_of2 I t
    obtain ⟨its, rv, ht, _⟩ := I.tuple h
    obtain ⟨u, y, ei, ru, ry⟩ := vals2 rv
    subst ei
    refine ⟨(kv.1, y) :: prs, (u, y) :: vps, .cons ⟨rfl, ry⟩ r, by rw [List.length_cons, List.length_cons, hl], by rw [List.length_cons, List.length_cons, hl2], fun j q e => ?_⟩
    cases j with
    | zero =>
      have e' : (kv.1, y) = q := Option.some.inj e
      subst e'
      exact ⟨p, u, rfl, rfl, ht, kV_is (P := X.prog) (w := X.w) ru⟩
    | succ j =>
      obtain ⟨b, u', e1, e2, e3, e4⟩ := hp j q (by simpa using e)
      exact ⟨b, u', by simpa using e1, by simpa using e2, e3, e4⟩
theorem call_dictT {X : Cx} (hcalm : X.calm = true) : CallR X (.type "dict") (rDictT X.K) := by
  intro pins s σ H xs us Q I r q
  obtain ⟨a, ob, ps, kvs, rfl, hq, hdn, hp, q⟩ := q
  obtain ⟨u, rfl, rx⟩ := vals1 r
  cases rx
  obtain ⟨hget, hz, its, rv, hT⟩ : s.heap.get? a = some ob ∧ (ps.map V.ref).length ≤ sizeLine ∧ ∃ its : List Value, Vals (ps.map V.ref) its ∧ IsTup s.heap a its.toArray := I.hok a _ hq
  have ei := refs_at rv
  subst ei
  rw [List.length_map] at hz
  obtain ⟨prs, vps, rel, hl, hl2, hpr⟩ := pairs_of2 I hp
  obtain ⟨o, ho, hc, n, hd⟩ := hT
  rw [hget] at ho
  cases Option.some.inj ho
  refine PySem.call_dict_pairs (knd := mixKind X.prog X.w) (kvs := prs) (PairArg.tuple a (ps.map Value.ref).toArray (fun j => ps.getD j 0) vps) (I.ok.hd hcalm) ⟨⟨ob, n, hget, hc, hdn, hd⟩, by rw [List.size_toArray, List.length_map, hl2], fun j k v e => ?_⟩ ⟨by rw [hl, hl2], fun i key v e => ?_⟩ (by rw [hl2]; exact hz) fun h' tk hd' k => ?_
  · have hj : j < ps.length := by
      rw [← hl2]
      exact (List.getElem?_eq_some_iff.mp e).1
    have hj2 : j < prs.length := by rw [hl]; exact hj
    obtain ⟨b, u, e1, e2, e3, e4⟩ := hpr j prs[j] (List.getElem?_eq_getElem hj2)
    rw [e] at e2
    have e5 := Option.some.inj e2
    injection e5 with e6 e7
    subst e6 e7
    have eb : ps.getD j 0 = b := by
      rw [List.getD_eq_getElem?_getD, e1]
      rfl
    dsimp only
    rw [eb]
    exact ⟨by simp [e1], .inl e3⟩
  · have hj2 : i < prs.length := by
      rw [hl, ← hl2]
      exact (List.getElem?_eq_some_iff.mp e).1
    obtain ⟨b, u, e1, e2, e3, e4⟩ := hpr i prs[i] (List.getElem?_eq_getElem hj2)
    rw [e] at e2
    have e5 := Option.some.inj e2
    injection e5 with e6 e7
    subst e6
    exact ⟨prs[i].1, by rw [List.getElem?_eq_getElem hj2, e7], e4⟩
  · have hm : (s.heap.objs.size == sysModules) = false := beq_eq_false_iff_ne.mpr (Nat.ne_of_gt I.big)
    have hlen : (mergeK [] kvs).length ≤ sizeLine := by
      refine Nat.le_trans (length_mergeK kvs []) ?_
      rw [List.length_nil, Nat.zero_add, rel.length, hl]
      exact hz
    exact ⟨.ref s.heap.objs.size, upd H s.heap.objs.size (.dK (mergeK [] kvs)), I.laid (t' := tk) (fun b o e => k b o (fun h => by cases h) e) (Nat.le_refl _) (show ObjOk X.prog X.w _ _ _ (.dK (mergeK [] kvs)) from ⟨hlen, hm, merged [] prs, KV.merge rel .nil, hd'⟩), rfl, q _ (I.hok.fresh (Nat.le_refl _))⟩
end HR

set_option Elab.async false
set_option linter.all false
set_option maxRecDepth 100000
set_option maxHeartbeats 4000000
namespace HR
open PySem PySem.Spec PyProof.Rows L2 Evl
def fWord (x : Nat × Rec) : PyData := if x.2.isPut then .str x.2.word else .none
def fLast (x : Nat × Rec) : PyData := if x.2.isPut then pIS x.1 x.2.key else .none
theorem getP_mem {α : Type} : ∀ {kvs : List (L2.Key × α)} {x : L2.Key × α}, (kvs.map (·.1)).Nodup → x ∈ kvs → getP kvs x.1 = some x.2
  | [], _, _, h => by cases h
  | y :: l, x, hn, h => by
    rw [List.map_cons, List.nodup_cons] at hn
    unfold getP
    rw [List.find?_cons]
    by_cases q : y.1 = x.1
    · rw [decide_eq_true q]
      rcases List.mem_cons.mp h with e | m
      · rw [e]
        rfl
      · exact absurd (List.mem_map.mpr ⟨x, m, q.symm⟩) hn.1
    · rw [decide_eq_false q]
      rcases List.mem_cons.mp h with e | m
      · exact absurd (by rw [e]) q
      · exact getP_mem hn.2 m
theorem word_list (rs : List Rec) : ((dictBy fWord (flat rs)).filter fun x => someD x.2).map (fun x => PyData.tuple [keyD x.1, x.2]) = tableL rs := by
  unfold tableL puts
  rw [dictBy_ents, List.filter_map, List.map_map]
  have e : ((fun x : L2.Key × PyData => someD x.2) ∘ fun x : L2.Key × (Nat × Rec) => (x.1, fWord x.2)) = fun x => x.2.2.isPut := by
    funext x
    show someD (fWord x.2) = _
    unfold fWord
    cases x.2.2.isPut <;> rfl
  rw [e]
  refine List.map_congr_left fun x hx => ?_
  have hp := (List.mem_filter.mp hx).2
  have hk := (mem_ents rfl).mp (show (x.1, x.2) ∈ ents (flat rs) from (List.mem_filter.mp hx).1)
  show PyData.tuple [keyD x.1, fWord x.2] = _
  unfold fWord
  rw [if_pos hp, hk.1]
  rfl
theorem last_list (rs : List Rec) : ((dictBy fLast (flat rs)).filter fun x => someD x.2).map (fun x => x.2) = lastsL rs := by
  unfold lastsL puts
  rw [dictBy_ents, List.filter_map, List.map_map]
  have e : ((fun x : L2.Key × PyData => someD x.2) ∘ fun x : L2.Key × (Nat × Rec) => (x.1, fLast x.2)) = fun x => x.2.2.isPut := by
    funext x
    show someD (fLast x.2) = _
    unfold fLast
    cases x.2.2.isPut <;> rfl
  rw [e]
  refine List.map_congr_left fun x hx => ?_
  have hp := (List.mem_filter.mp hx).2
  show fLast x.2 = _
  unfold fLast
  rw [if_pos hp]
theorem atl_0 (r : Rec) : L2.atI (encL r) 0 = some (.str r.tag) := at_0 r
theorem atl_1 {r : Rec} (h : r.isBlank = false) : L2.atI (encL r) 1 = some (.str r.key) := by
  cases r with
  | blank => cases h
  | put k w p l => rfl
  | drop k p l => rfl
theorem pair_shaped (a b : Int) : SeqAt.shaped (.tuple [.int a, .int b]) = true := by
  simp [SeqAt.shaped, PyData.canLay0, PyData.canLayAll0, PyData.depth, PyData.depthAll]
theorem eqv_pair (a b c d : Int) : PyData.eqv (.tuple [.int a, .int b]) (.tuple [.int c, .int d]) = (decide (a = c) && decide (b = d)) := by
  simp [PyData.eqv, PyData.eqvAll]
  rw [Bool.eq_iff_iff]
  simp
theorem cut_last {r : Rec} (h : r.isBlank = false) : cutD (encL r) (some (-2)) none = [.int (r.place : Nat), .int (r.left : Nat)] := by
  cases r with
  | blank => cases h
  | put k w p l => rfl
  | drop k p l => rfl
/-- what is put grows by a lot -/
theorem flat_step {rs : List Rec} {k i : Nat} (h : (closing rs rs.length)[k]? = some i) : flatOf rs ((closing rs rs.length).take (k + 1)) = flatOf rs ((closing rs rs.length).take k) ++ lotEnts rs i := by
  have e : (closing rs rs.length).take (k + 1) = (closing rs rs.length).take k ++ [i] := by
    rw [List.take_add_one, h]
    rfl
  rw [e]
  unfold flatOf
  rw [List.flatMap_append, List.flatMap_cons, List.flatMap_nil, List.append_nil]
theorem ents_step {rs : List Rec} {i j : Nat} {r : Rec} (h : (lotAt rs i)[j]? = some r) : (lotEnts rs i).take (j + 1) = (lotEnts rs i).take j ++ [(i + 1 - (lotAt rs i).length + j, r)] := by
  rw [List.take_add_one]
  congr 1
  unfold lotEnts
  rw [List.getElem?_map, List.getElem?_zipIdx, h, Nat.zero_add]
  rfl
theorem ents_all (rs : List Rec) (i : Nat) : (lotEnts rs i).take (lotAt rs i).length = lotEnts rs i := List.take_of_length_le (by unfold lotEnts; rw [List.length_map, List.length_zipIdx]; exact Nat.le_refl _)
theorem acc_small {α : Type} {rs : List Rec} {k i j : Nat} (hn : rs.length ≤ 40) (hi : i < rs.length) (f : Nat × Rec → α) : (dictBy f (flatOf rs ((closing rs rs.length).take k) ++ (lotEnts rs i).take j)).length ≤ 50000 := by
  have h0 := closing_len rs rs.length
  have hcl := parts_le rs i
  have h1 := dictBy_len f (flatOf rs ((closing rs rs.length).take k) ++ (lotEnts rs i).take j)
  have h2 := flat_len hn ((closing rs rs.length).take k) (by rw [List.length_take]; omega) (fun y hy => List.mem_range.mp (List.mem_filter.mp (List.mem_of_mem_take hy)).1)
  have h3 : ((lotEnts rs i).take j).length ≤ 41 := by
    unfold lotEnts
    rw [List.length_take, List.length_map, List.length_zipIdx, lot_len hi]
    omega
  rw [List.length_append] at h1
  rw [List.length_take] at h2
  have : min k (closing rs rs.length).length ≤ 40 := by omega
  omega
theorem dict_small {α : Type} {rs : List Rec} (hn : rs.length ≤ 40) (f : Nat × Rec → α) : (dictBy f (flat rs)).length ≤ 50000 := by
  have h1 := dictBy_len f (flat rs)
  have h2 := flat_short rs
  omega
section
variable {P : Program} {w : World} {K : PySem.W.Frag} {mg : Str → Option Value} {base : Heap}
theorem scLawLore : FnScope ["_law_notes_so", "_law_found", "_law_k", "_law_parts_so", "_law_own"] ["_law_notes_so"] (defScope sLawLore) := ⟨rfl, rfl, rfl, by decide +kernel, rfl, by decide +kernel, by decide +kernel⟩
def spLore (K : PySem.W.Frag) : Sp := fun vs H Q _ => ∃ (L : List Addr) (v : V) (rs : List Rec), (∀ a ∈ L, ∃ o, H a = some o) ∧ vs = [v] ∧ Dp K (er L H) v (rowD rs) ∧ rs.length ≤ 40 ∧ (∀ r ∈ rs, recOk r = true) ∧
  ∀ (a : Addr) (ob : Obj) (ys : List V) (H' : Hp), Ex H H' → a ∉ L → H' a = some (.frz ob (.tup ys)) → ob.dict = none → DpAll K (er L H') ys (tableD rs) → Q (.ref a) H'
theorem ok__law_lore (T : Top K mg) : Ok P w K mg base 3 "_law_lore" ["_law_notes_so"] (spLore K) := by
  have O__law_closed : Ok P w K mg base 2 _ _ _ := ok__law_closed T
  refine ok_def T 38 38 scLawLore (fun vs H Q E h => by obtain ⟨L, v, rs, _, rfl, _⟩ := h; rfl) (fun _ _ _ _ _ _ us hl => match us, hl with | [_], _ => rfl) (fun cdv A outer s H vs Q E hr h => ?_)
  obtain ⟨L, v, rs, hl, rfl, hd, hn, hg, q⟩ := h
  refine ⟨_, pss_cons (ps_set (i := 1) scLawLore.nd rfl (.inr rfl) pe_dnewK)
      (pss_cons (ps_for PassesOwn.never rfl (pi_list (pe_cal O__law_closed hr (pa_cons (pv 0) pa_nil))) (pg_tup rfl (pgs_cons (pg_name (i := 2) scLawLore.nd rfl (Or.inl rfl)) (pgs_cons (pg_name (i := 3) scLawLore.nd rfl (Or.inl rfl)) pgs_nil)))
      (pss_one (ps_for PassesOwn.never rfl (pi_list (pv 3)) (pg_name (i := 4) scLawLore.nd rfl (Or.inl rfl))
      (pss_one (ps_dput (hu_of hr) (pv 1) (pe_ix (r := rIxT K) ix_tup (pv 4) pe_int (fun _ _ => rfl)) (pe_ifExp (pt_cmpR op_eq (pe_ix (r := rIxT K) ix_tup (pv 4) pe_int (fun _ _ => rfl)) pe_str (nomark _)) (pe_ix (r := rIxT K) ix_tup (pv 4) pe_int (fun _ _ => rfl)) pe_non) rfl)))))
      (pss_one (ps_ret (pe_callTy (r := rTupZ K) call_tupZ (by rfl) T.tupleN (by decide +kernel) (pa_cons (pe_callB (r := rSortD K) (cr_sortD hr.units) (by rfl) T.sortedN (by decide +kernel) (pa_cons (pe_lc (own := [("_law_own", 4)]) (g := (gName 4)) rfl scLawLore.nd (pi_keys (pe_lockA (pv 1))) (blkOk_by (N := ["_law_notes_so", "_law_found", "_law_k", "_law_parts_so", "_law_own"]) (sc := defScope sLawLore) (by decide +kernel)) (fun _ _ _ _ _ => (pg_name (i := 4) scLawLore.nd rfl (Or.inl rfl))) (fun _ _ _ _ _ => (pts_one (pt_cmp (pc_notN (pe_dget (hu_of hr) (pv 1) (pv 4) (fun _ _ => rfl)))))) (fun _ _ _ _ _ => (pe_tup (pa_cons (pv 4) (pa_cons (pe_dget (hu_of hr) (pv 1) (pv 4) (fun _ _ => rfl)) pa_nil))))) pa_nil)) pa_nil))))), ?_⟩
  have E1 := env_start (N := ["_law_notes_so", "_law_found", "_law_k", "_law_parts_so", "_law_own"]) (ds := [rowD rs]) (vs := [v]) hl (.cons hd .nil)
  refine sg_newD E1 fun p σ2 H2 hp np e2 E2 => ?_
  refine sg_for (α := Nat) (enc := fun i => .tuple [.int (i : Nat), .list ((lotAt rs i).map enc)]) (xs := closing rs rs.length) (js := [2, 3]) (fun k => [.dat (rowD rs), .dk p (dictBy fWord (flatOf rs ((closing rs rs.length).take k))), .no, .no, .no])
    (fun k i => [.dat (rowD rs), .dk p (dictBy fWord (flatOf rs ((closing rs rs.length).take k))), .dat (.int (i : Nat)), .dat (.list ((lotAt rs i).map enc)), .no]) E2
    (src_list (eg_call (ag_cons (eg_var rfl) ag_nil) ⟨rs, hn, hg, rfl, rfl⟩)) (fun k i _ => bnd_two) ?_ ?_
  · intro k i B' σ3 H3 N hx hB E3 hN
    have mem : i ∈ closing rs rs.length := List.mem_of_getElem? hx
    obtain ⟨m1, m2⟩ := List.mem_filter.mp mem
    have hi : i < rs.length := List.mem_range.mp m1
    have hc : 0 < partsClosed rs i := of_decide_eq_true m2
    refine sl_for (H0 := B') (M := [p]) (L := p :: L) (α := Rec) (enc := enc) (xs := lotAt rs i) (js := [4])
      (fun j => [.dat (rowD rs), .dk p (dictBy fWord (flatOf rs ((closing rs rs.length).take k) ++ (lotEnts rs i).take j)), .dat (.int (i : Nat)), .dat (.list ((lotAt rs i).map enc)), .no])
      (fun j r => [.dat (rowD rs), .dk p (dictBy fWord (flatOf rs ((closing rs rs.length).take k) ++ (lotEnts rs i).take j)), .dat (.int (i : Nat)), .dat (.list ((lotAt rs i).map enc)), .dat (enc r)]) ?st (src_list (eg_var rfl)) (fun j x _ => bnd_name) ?_ ?_
    case st =>
      rw [List.take_zero, List.append_nil]
      exact E3
    · intro j r B2 σ5 H5 N2 hx2 hB2 E5 hN2
      have hb : r.isBlank = false := lot_good hi hc r (List.mem_of_getElem? hx2)
      refine sl_put (d := fWord (i + 1 - (lotAt rs i).length + j, r)) (x := r.key) E5 rfl List.mem_cons_self ?_ (eg_ixT (eg_var rfl) eg_int (atl_1 hb)) (acc_small hn hi _) fun H6 E6 => ?_
      · refine eg_if (tg_T (eg_eqS (eg_ixT (eg_var rfl) eg_int (at_0 r)) eg_str)) (fun h => ?_) fun h => ?_
        · rw [tag_put hb] at h
          refine eg_is (eg_ixT (eg_var rfl) eg_int (at_word h)) ?_
          unfold fWord
          rw [if_pos h]
        · rw [tag_put hb] at h
          refine eg_is eg_non ?_
          unfold fWord
          rw [if_neg (by rw [h]; exact Bool.false_ne_true)]
      · refine hN2 _ _ ?_
        rw [ents_step hx2, ← List.append_assoc, dictBy_snoc]
        exact E6.forget 4
    · intro σ5 H5 E5
      refine hN _ _ ?_
      rw [ents_all, ← flat_step hx] at E5
      exact (E5.forget 2).forget 3
  · intro σ3 H3 E3
    rw [List.take_length] at E3
    have hnd := dictBy_nodup fWord (flat rs)
    have hin := dictBy_inr fWord (flat rs)
    obtain ⟨s1, s2, s3⟩ := tableL_sorts rs
    delta tRet tCB tCons tNil
    dsimp only
    refine lc_keys (js := [4]) (kvs := dictBy fWord (flat rs)) E3 rfl List.mem_cons_self rfl (fun x => [.dat (rowD rs), .fz p (dictBy fWord (flat rs)), .no, .no, .dat (keyD x.1)]) (fun x _ => bnd_name) (fun x => someD x.2) (fun x => .tuple [keyD x.1, x.2]) (dict_small hn _)
      (fun x hx => ?_) (fun x hx _ => ?_) (by simp) fun v H4 E4 hv => ?_
    · obtain ⟨z, hz⟩ := hin x hx
      refine tg_B (eg_notN (eg_getF rfl (x := z) (eg_is (eg_var rfl) (by rw [hz]; rfl)) ?_))
      rw [← hz]
      exact getP_mem hnd hx
    · obtain ⟨z, hz⟩ := hin x hx
      refine eg_tup (ag_cons (eg_var rfl) (ag_cons (eg_getF rfl (x := z) (eg_is (eg_var rfl) (by rw [hz]; rfl)) ?_) ag_nil))
      rw [← hz]
      exact getP_mem hnd hx
    · rw [word_list] at hv
      refine rt_sort E4 hv s1 s2 s3 fun v5 H5 e5 hv5 => ?_
      have E5 := E4.mono e5
      cases hv5 with
      | @lst b xs _ hs hx =>
        refine ⟨b, xs, rfl, ex_l (er_ex _ _) hs, fun a ob ha hob => ?_⟩
        have na := E5.fresh ha
        have e6 := Ex.new (o := .frz ob (.tup xs)) ha
        have E6 := E5.mono e6
        exact q a ob xs _ (E6.base.trans (er_ex _ _)) (fun m => na (List.mem_cons_of_mem _ m)) upd_same hob (dps_mono ((er_mono e6).trans (er_less fun a h => List.mem_cons_of_mem _ h)) _ _ hx)
/-- its answer, as plain data -/
theorem eg_lore {Γ : Ctx} {ta : TA} {X : XK} {rs : List Rec} (h : AG K ta Γ [rowD rs]) (hn : rs.length ≤ 40) (hg : ∀ r ∈ rs, recOk r = true) : EG K (tCall (spLore K) [] X ta) Γ (.tuple (tableD rs)) := fun H0 M L σ H E Q q => by
  refine h H0 M L σ H E _ fun vs H1 e1 h1 => ?_
  obtain ⟨v, rfl, hv⟩ := ag_1 h1
  refine ⟨L, v, rs, (E.mono e1).live, rfl, hv, hn, hg, fun a ob ys H' e2 na ha _ hy => q _ H' (e1.trans e2) (.tup (.inl (.inr ⟨ob, ?_⟩)) hy)⟩
  rw [er_out na]
  exact ha
theorem scLawLasts : FnScope ["_law_notes_so", "_law_found", "_law_k", "_law_parts_so", "_law_j", "_law_own"] ["_law_notes_so"] (defScope sLawLasts) := ⟨rfl, rfl, rfl, by decide +kernel, rfl, by decide +kernel, by decide +kernel⟩
def PLawLasts (ds : List PyData) (d : PyData) : Prop := ∃ rs : List Rec, rs.length ≤ 40 ∧ (∀ r ∈ rs, recOk r = true) ∧ ds = [rowD rs] ∧ d = .list (lastsD rs)
theorem ok__law_lasts (T : Top K mg) : Ok P w K mg base 3 "_law_lasts" ["_law_notes_so"] (spD K PLawLasts) := by
  have O__law_closed : Ok P w K mg base 2 _ _ _ := ok__law_closed T
  refine ok_def T 39 39 scLawLasts (fun vs H Q E h => by obtain ⟨L, ds, d, _, hd, ⟨rs, _, _, rfl, _⟩, _⟩ := h; rw [dps_len hd]; rfl) (fun _ _ _ _ _ _ us hl => match us, hl with | [_], _ => rfl) (fun cdv A outer s H vs Q E hr h => ?_)
  obtain ⟨L, ds, d, hl, hd, ⟨rs, hn, hg, rfl, rfl⟩, q⟩ := h
  refine ⟨_, pss_cons (ps_set (i := 1) scLawLasts.nd rfl (.inr rfl) pe_dnewK)
      (pss_cons (ps_for PassesOwn.never rfl (pi_list (pe_cal O__law_closed hr (pa_cons (pv 0) pa_nil))) (pg_tup rfl (pgs_cons (pg_name (i := 2) scLawLasts.nd rfl (Or.inl rfl)) (pgs_cons (pg_name (i := 3) scLawLasts.nd rfl (Or.inl rfl)) pgs_nil)))
      (pss_one (ps_for PassesOwn.never rfl (pi_enum (by rfl) T.enumerateN (pa_cons (pv 3) pa_nil)) (pg_tup rfl (pgs_cons (pg_name (i := 4) scLawLasts.nd rfl (Or.inl rfl)) (pgs_cons (pg_name (i := 5) scLawLasts.nd rfl (Or.inl rfl)) pgs_nil)))
      (pss_one (ps_dput (hu_of hr) (pv 1) (pe_ix (r := rIxT K) ix_tup (pv 5) pe_int (fun _ _ => rfl)) (pe_ifExp (pt_cmpR op_eq (pe_ix (r := rIxT K) ix_tup (pv 5) pe_int (fun _ _ => rfl)) pe_str (nomark _)) (pe_tup (pa_cons (pe_op op_add (pe_op op_add (pe_op op_sub (pv 2) (pe_callB (r := rLenX K) call_lenX (by rfl) T.lenN (by decide +kernel) (pa_cons (pv 3) pa_nil))) pe_int) (pv 4)) (pa_cons (pe_ix (r := rIxT K) ix_tup (pv 5) pe_int (fun _ _ => rfl)) pa_nil))) pe_non) rfl)))))
      (pss_one (ps_ret (pe_callB (r := rSortD K) (cr_sortD hr.units) (by rfl) T.sortedN (by decide +kernel) (pa_cons (pe_lc (own := [("_law_own", 5)]) (g := (gName 5)) rfl scLawLasts.nd (pi_keys (pe_lockA (pv 1))) (blkOk_by (N := ["_law_notes_so", "_law_found", "_law_k", "_law_parts_so", "_law_j", "_law_own"]) (sc := defScope sLawLasts) (by decide +kernel)) (fun _ _ _ _ _ => (pg_name (i := 5) scLawLasts.nd rfl (Or.inl rfl))) (fun _ _ _ _ _ => (pts_one (pt_cmp (pc_notN (pe_dget (hu_of hr) (pv 1) (pv 5) (fun _ _ => rfl)))))) (fun _ _ _ _ _ => (pe_dget (hu_of hr) (pv 1) (pv 5) (fun _ _ => rfl)))) pa_nil))))), ?_⟩
  have E1 := env_start (N := ["_law_notes_so", "_law_found", "_law_k", "_law_parts_so", "_law_j", "_law_own"]) hl hd
  refine sg_newD E1 fun p σ2 H2 hp np e2 E2 => ?_
  refine sg_for (α := Nat) (enc := fun i => .tuple [.int (i : Nat), .list ((lotAt rs i).map enc)]) (xs := closing rs rs.length) (js := [2, 3]) (fun k => [.dat (rowD rs), .dk p (dictBy fLast (flatOf rs ((closing rs rs.length).take k))), .no, .no, .no, .no])
    (fun k i => [.dat (rowD rs), .dk p (dictBy fLast (flatOf rs ((closing rs rs.length).take k))), .dat (.int (i : Nat)), .dat (.list ((lotAt rs i).map enc)), .no, .no]) E2
    (src_list (eg_call (ag_cons (eg_var rfl) ag_nil) ⟨rs, hn, hg, rfl, rfl⟩)) (fun k i _ => bnd_two) ?_ ?_
  · intro k i B' σ3 H3 N hx hB E3 hN
    have mem : i ∈ closing rs rs.length := List.mem_of_getElem? hx
    obtain ⟨m1, m2⟩ := List.mem_filter.mp mem
    have hi : i < rs.length := List.mem_range.mp m1
    have hc : 0 < partsClosed rs i := of_decide_eq_true m2
    have hcl := parts_le rs i
    have hlen := lot_len hi
    refine sl_for (H0 := B') (M := [p]) (L := p :: L) (α := Rec × Nat) (enc := fun x => .tuple [.int (x.2 : Nat), enc x.1]) (xs := (lotAt rs i).zipIdx) (js := [4, 5])
      (fun j => [.dat (rowD rs), .dk p (dictBy fLast (flatOf rs ((closing rs rs.length).take k) ++ (lotEnts rs i).take j)), .dat (.int (i : Nat)), .dat (.list ((lotAt rs i).map enc)), .no, .no])
      (fun j x => [.dat (rowD rs), .dk p (dictBy fLast (flatOf rs ((closing rs rs.length).take k) ++ (lotEnts rs i).take j)), .dat (.int (i : Nat)), .dat (.list ((lotAt rs i).map enc)), .dat (.int (x.2 : Nat)), .dat (enc x.1)]) ?st (src_is (src_enumL (ag_cons (eg_var rfl) ag_nil)) (by rw [List.zipIdx_map, List.map_map]; rfl)) (fun j x _ => bnd_two) ?_ ?_
    case st =>
      rw [List.take_zero, List.append_nil]
      exact E3
    · intro j x B2 σ5 H5 N2 hx2 hB2 E5 hN2
      obtain ⟨r, t⟩ := x
      have hj : j < (lotAt rs i).length := by
        have := (List.getElem?_eq_some_iff.mp hx2).1
        rwa [List.length_zipIdx] at this
      rw [List.getElem?_zipIdx, List.getElem?_eq_getElem hj] at hx2
      have ex := Option.some.inj hx2
      rw [Prod.mk.injEq, Nat.zero_add] at ex
      obtain ⟨er', rfl⟩ := ex
      have hx3 : (lotAt rs i)[j]? = some r := by rw [List.getElem?_eq_getElem hj, er']
      have hb : r.isBlank = false := lot_good hi hc r (List.mem_of_getElem? hx3)
      refine sl_put (d := fLast (i + 1 - (lotAt rs i).length + j, r)) (x := r.key) E5 rfl List.mem_cons_self ?_ (eg_ixT (eg_var rfl) eg_int (atl_1 hb)) (acc_small hn hi _) fun H6 E6 => ?_
      · refine eg_if (tg_T (eg_eqS (eg_ixT (eg_var rfl) eg_int (at_0 r)) eg_str)) (fun h => ?_) fun h => ?_
        · rw [tag_put hb] at h
          refine eg_is (eg_tup (ag_cons (eg_is (d' := .int ((i + 1 - (lotAt rs i).length + j : Nat) : Int)) (eg_II (eg_II (eg_II (eg_var rfl) (eg_lenXL (eg_var rfl))) eg_int) (eg_var rfl)) ?_) (ag_cons (eg_ixT (eg_var rfl) eg_int (atl_1 hb)) ag_nil))) ?_
          · rw [List.length_map]
            congr 1
            omega
          · unfold fLast
            rw [if_pos h]
            rfl
        · rw [tag_put hb] at h
          refine eg_is eg_non ?_
          unfold fLast
          rw [if_neg (by rw [h]; exact Bool.false_ne_true)]
      · refine hN2 _ _ ?_
        rw [ents_step hx3, ← List.append_assoc, dictBy_snoc]
        exact (E6.forget 4).forget 5
    · intro σ5 H5 E5
      refine hN _ _ ?_
      rw [List.length_zipIdx, ents_all, ← flat_step hx] at E5
      exact (E5.forget 2).forget 3
  · intro σ3 H3 E3
    rw [List.take_length] at E3
    have hnd := dictBy_nodup fLast (flat rs)
    have hin := dictBy_inr fLast (flat rs)
    obtain ⟨s1, s2, s3⟩ := lastsL_sorts rs
    delta tRet tCB tCons tNil
    dsimp only
    refine lc_keys (js := [5]) (kvs := dictBy fLast (flat rs)) E3 rfl List.mem_cons_self rfl (fun x => [.dat (rowD rs), .fz p (dictBy fLast (flat rs)), .no, .no, .no, .dat (keyD x.1)]) (fun x _ => bnd_name) (fun x => someD x.2) (fun x => x.2) (dict_small hn _)
      (fun x hx => ?_) (fun x hx _ => ?_) (by simp) fun v H4 E4 hv => ?_
    · obtain ⟨z, hz⟩ := hin x hx
      refine tg_B (eg_notN (eg_getF rfl (x := z) (eg_is (eg_var rfl) (by rw [hz]; rfl)) ?_))
      rw [← hz]
      exact getP_mem hnd hx
    · obtain ⟨z, hz⟩ := hin x hx
      refine eg_getF rfl (x := z) (eg_is (eg_var rfl) (by rw [hz]; rfl)) ?_
      rw [← hz]
      exact getP_mem hnd hx
    · rw [last_list] at hv
      refine rt_sort E4 hv s1 s2 s3 fun v5 H5 e5 hv5 => ?_
      have E6 := E4.mono e5
      exact q v5 H5 (E6.base.trans (er_ex _ _)) (dp_mono (er_less fun a h => List.mem_cons_of_mem _ h) _ _ hv5)
theorem scLawWhole : FnScope ["_law_notes_so", "_law_own", "_law_its"] ["_law_notes_so"] (defScope sLawWhole) := ⟨rfl, rfl, rfl, by decide +kernel, rfl, by decide +kernel, by decide +kernel⟩
def PWhole (ds : List PyData) (d : PyData) : Prop := ∃ rs : List Rec, rs.length ≤ 41 ∧ (∀ r ∈ rs, recOk r = true) ∧ ds = [rowD rs] ∧ d = .bool (unbrokenB rs)
theorem ok__law_whole (T : Top K mg) : Ok P w K mg base 2 "_law_whole" ["_law_notes_so"] (spD K PWhole) := by
  have O__law_blank : Ok P w K mg base 1 _ _ _ := ok__law_blank T
  refine ok_def T 42 42 scLawWhole (fun vs H Q E h => by obtain ⟨L, ds, d, _, hd, ⟨rs, _, _, rfl, _⟩, _⟩ := h; rw [dps_len hd]; rfl) (fun _ _ _ _ _ _ us hl => match us, hl with | [_], _ => rfl) (fun cdv A outer s H vs Q E hr h => ?_)
  obtain ⟨L, ds, d, hl, hd, ⟨rs, hn, hg, rfl, rfl⟩, q⟩ := h
  refine ⟨_, pss_cons (ps_for PassesOwn.never rfl (RZ.pi_zipA (by rfl) T.zipN (pa_cons (pv 0) (pa_cons (pe_slice (r := rSlA K) sl_tupA (pv 0) (po_some pe_int) po_none) pa_nil))) (pg_tup rfl (pgs_cons (pg_name (i := 1) scLawWhole.nd rfl (Or.inl rfl)) (pgs_cons (pg_name (i := 2) scLawWhole.nd rfl (Or.inl rfl)) pgs_nil)))
      (pss_one (ps_if (PW.pt (pw_and (pt_cmpR (r := rNeD K) (op_neD hr.units) (pv 2) (pe_cal0 O__law_blank hr) (nomark _)) (pw_and1 (pt_cmpR op_gt (pe_ix (r := rIxT K) ix_tup (pv 2) (pe_un un_neg pe_int) (fun _ _ => rfl)) pe_int (nomark _))))) (pss_one (ps_if (PW.pt (pw_or (pt_cmpR (r := rEqD K) (op_eqD hr.units) (pv 1) (pe_cal0 O__law_blank hr) (nomark _)) (pw_or1 (pt_cmpR (r := rNeD K) (op_neD hr.units) (pe_tup (pa_cons (pe_op op_add (pe_ix (r := rIxT K) ix_tup (pv 1) (pe_un un_neg pe_int) (fun _ _ => rfl)) pe_int) (pa_cons (pe_op op_sub (pe_ix (r := rIxT K) ix_tup (pv 1) (pe_un un_neg pe_int) (fun _ _ => rfl)) pe_int) pa_nil))) (pe_slice (r := rSlA K) sl_tupA (pv 2) (po_some (pe_un un_neg pe_int)) po_none) (nomark _))))) (pss_one (ps_ret pe_bl)) pss_nil)) pss_nil)))
      (pss_one (ps_ret pe_bl)), ?_⟩
  have E1 := env_start (N := ["_law_notes_so", "_law_own", "_law_its"]) hl hd
  have key : unbrokenB rs = true ↔ ∀ p ∈ rs.zip (rs.drop 1), followsB p.1 p.2 = true := by
    unfold unbrokenB
    rw [List.all_map, List.all_eq_true]
    exact Iff.rfl
  have e0 : cutD (rs.map enc) (some 1) none = (rs.drop 1).map enc := by
    rw [cut_map]
    exact congrArg _ (cut_from rs 1)
  refine sg_forX (α := Rec × Rec) (β := Unit) (enc := fun p => .tuple [enc p.1, enc p.2]) (xs := rs.zip (rs.drop 1)) (js := [1, 2]) (fun _ _ => [.dat (rowD rs), .no, .no]) (fun _ p _ => [.dat (rowD rs), .dat (enc p.1), .dat (enc p.2)]) (fun i _ => ∀ j x, j < i → (rs.zip (rs.drop 1))[j]? = some x → followsB x.1 x.2 = true) () (fun j x h => by omega) E1
    (src_is (src_zipT (ag_cons (eg_var rfl) (ag_cons (eg_slT (eg_var rfl) (og_some eg_int) og_none) ag_nil))) (by rw [e0, List.zip_map, List.map_map]; rfl)) (fun i x b _ _ => bnd_two) ?_ ?_
  · intro i x _ B' σ3 H3 N hx hI hB E3 hN
    have mem : x ∈ rs.zip (rs.drop 1) := List.mem_of_getElem? hx
    obtain ⟨m1, m2⟩ := List.of_mem_zip (show (x.1, x.2) ∈ rs.zip (rs.drop 1) from mem)
    have g1 := hg _ m1
    have g2 := hg _ (List.mem_of_mem_drop m2)
    have next : followsB x.1 x.2 = true → ∀ σ'' H'', Env K B' [] L σ'' H'' [.dat (rowD rs), .dat (enc x.1), .dat (enc x.2)] → N σ'' H'' := fun hf σ'' H'' E' => hN () _ _ (fun j y hj hy => by
      by_cases q : j < i
      · exact hI j y q hy
      · rw [show j = i by omega, hx] at hy
        cases Option.some.inj hy
        exact hf) ((E'.forget 1).forget 2)
    refine sl_if (b := !(x.2.isBlank || decide (x.2.place = 0))) E3 ?t1 (fun hb H4 e4 E4 => ?_) fun hb H4 e4 E4 => ?_
    case t1 =>
      refine tg_is (tg_and (y := !decide (x.2.place = 0)) (tg_T (eg_ne (eg_var rfl) (eg_call (P := PBlank) ag_nil ⟨rfl, rfl⟩) (rec_shaped g2) blank_shaped)) fun h => ?_) ?_
      · rw [eqv_blank, Bool.not_eq_true'] at h
        refine tg_is (tg_T (eg_IB (eg_ixT (eg_var rfl) (eg_U eg_int) (at_m2 h)) eg_int)) ?_
        rw [Bool.eq_iff_iff, decide_eq_true_iff, Bool.not_eq_true', decide_eq_false_iff_not]
        omega
      · rw [eqv_blank, Bool.not_or]
    · rw [Bool.not_eq_true', Bool.or_eq_false_iff] at hb
      obtain ⟨hb1, hb2⟩ := hb
      have hb2 := of_decide_eq_false hb2
      refine sl_if (b := !followsB x.1 x.2) E4 ?t2 (fun hf H5 e5 E5 => ?_) fun hf H5 e5 E5 => ?_
      case t2 =>
        refine tg_is (tg_or (y := !(decide (x.1.place + 1 = x.2.place) && decide (x.1.left = x.2.left + 1))) (tg_T (eg_eq (eg_var rfl) (eg_call (P := PBlank) ag_nil ⟨rfl, rfl⟩) (rec_shaped g1) blank_shaped)) fun h => ?_) ?_
        · rw [eqv_blank] at h
          refine tg_is (tg_T (eg_ne (eg_tup (ag_cons (eg_II (eg_ixT (eg_var rfl) (eg_U eg_int) (at_m2 h)) eg_int) (ag_cons (eg_II (eg_ixT (eg_var rfl) (eg_U eg_int) (at_m1 h)) eg_int) ag_nil))) (eg_slT (eg_var rfl) (og_some (eg_U eg_int)) og_none) (pair_shaped _ _) ?_)) ?_
          · rw [cut_last hb1]
            exact pair_shaped _ _
          · rw [cut_last hb1, eqv_pair]
            congr 2
            · rw [decide_eq_decide]
              omega
            · rw [decide_eq_decide]
              omega
        · rw [eqv_blank, Bool.eq_iff_iff, Bool.or_eq_true, Bool.not_eq_true', Bool.not_eq_true', Bool.and_eq_false_iff, decide_eq_false_iff_not, decide_eq_false_iff_not]
          constructor
          · intro h
            by_cases q : followsB x.1 x.2 = true
            · rcases follows_iff.mp q with q1 | q1 | ⟨q1, q2, q3⟩
              · rw [hb1] at q1
                cases q1
              · exact absurd q1 hb2
              · rcases h with h | h | h
                · rw [q1] at h
                  cases h
                · exact absurd q2 h
                · exact absurd q3 h
            · exact Bool.not_eq_true _ ▸ q
          · intro h
            by_cases q1 : x.1.isBlank = true
            · exact .inl q1
            · by_cases q2 : x.1.place + 1 = x.2.place
              · by_cases q3 : x.1.left = x.2.left + 1
                · have := follows_iff.mpr (.inr (.inr ⟨Bool.not_eq_true _ ▸ q1, q2, q3⟩))
                  rw [h] at this
                  cases this
                · exact .inr (.inr q3)
              · exact .inr (.inl q2)
      · rw [Bool.not_eq_true'] at hf
        refine sl_ret E5 eg_bl fun v H6 e6 E6 hv => ?_
        have hu : unbrokenB rs = false := by
          by_cases q : unbrokenB rs = true
          · have := key.mp q _ mem
            rw [hf] at this
            cases this
          · exact Bool.not_eq_true _ ▸ q
        rw [hu] at q
        exact q v H6 ((hB.trans E6.base).trans (er_ex _ _)) hv
      · rw [Bool.not_eq_false'] at hf
        exact next hf _ _ E5
    · rw [Bool.not_eq_false'] at hb
      refine next ?_ _ _ E4
      rcases Bool.or_eq_true_iff.mp hb with h | h
      · exact follows_iff.mpr (.inl h)
      · exact follows_iff.mpr (.inr (.inl (of_decide_eq_true h)))
  · intro _ σ3 H3 hI E3
    refine sl_ret E3 eg_bl fun v H6 e6 E6 hv => ?_
    have hu : unbrokenB rs = true := key.mpr fun x hx => by
      obtain ⟨j, hj⟩ := List.mem_iff_getElem?.mp hx
      exact hI j x (List.getElem?_eq_some_iff.mp hj).1 hj
    rw [hu] at q
    exact q v H6 (E6.base.trans (er_ex _ _)) hv
end
end HR

set_option Elab.async false
set_option linter.all false
set_option maxRecDepth 100000
set_option maxHeartbeats 4000000
namespace HR
open PySem PySem.Spec L2
theorem recAt_drop (rs : List Rec) (k j : Nat) : recAt (rs.drop k) j = recAt rs (k + j) := by
  unfold recAt
  rw [List.getD_eq_getElem?_getD, List.getD_eq_getElem?_getD, List.getElem?_drop]
theorem unb_at {rs : List Rec} (h : unb rs) {i : Nat} (hi : i + 1 < rs.length) : followsB (recAt rs i) (recAt rs (i + 1)) = true := h i _ _ (recAt_get (by omega)) (recAt_get hi)
/-- in an unbroken row the parts ahead are there -/
theorem unb_parts {rs : List Rec} (h : unb rs) {i : Nat} (hi : i < rs.length) (hb : (recAt rs i).isBlank = false) (hl : (recAt rs i).left = 0) : ∀ j, j ≤ min (recAt rs i).place i → (recAt rs (i - j)).isBlank = false ∧ (recAt rs (i - j)).place = (recAt rs i).place - j ∧ (recAt rs (i - j)).left = j
  | 0, _ => ⟨hb, rfl, hl⟩
  | j + 1, hj => by
    obtain ⟨h1, h2, h3⟩ := unb_parts h hi hb hl j (by omega)
    have f := unb_at h (i := i - (j + 1)) (by omega)
    rw [show i - (j + 1) + 1 = i - j by omega] at f
    rcases follows_iff.mp f with q | q | ⟨q1, q2, q3⟩
    · rw [h1] at q
      cases q
    · omega
    · exact ⟨q1, by omega, by omega⟩
theorem unb_closes {rs : List Rec} (h : unb rs) {i : Nat} (hi : i < rs.length) : partsClosed rs i = if (recAt rs i).isBlank || !decide ((recAt rs i).left = 0) then 0 else min (recAt rs i).place i + 1 := by
  unfold partsClosed
  by_cases h1 : ((recAt rs i).isBlank || !decide ((recAt rs i).left = 0)) = true
  · rw [if_pos h1, if_pos h1]
  · rw [if_neg h1, if_neg h1, if_pos]
    rw [Bool.not_eq_true, Bool.or_eq_false_iff, Bool.not_eq_false'] at h1
    rw [List.all_eq_true]
    intro j hj
    have hj := List.mem_range.mp hj
    have := unb_parts h hi h1.1 (of_decide_eq_true h1.2) (j + 1) (by omega)
    refine (partOk_iff (by omega)).mpr ?_
    rw [show i - (1 + j) = i - (j + 1) by omega]
    exact ⟨this.1, by omega, by omega⟩
theorem covered_iff {rs : List Rec} (h : unb rs) {j : Nat} : covered rs j ↔ ∃ i, i < rs.length ∧ (recAt rs i).isBlank = false ∧ (recAt rs i).left = 0 ∧ j ≤ i ∧ i ≤ j + (recAt rs i).place := by
  unfold covered
  constructor
  · rintro ⟨i, h1, h2, h3, h4⟩
    obtain ⟨a, b, c, _⟩ := closes_iff h2
    have := Nat.min_le_left (recAt rs i).place i
    exact ⟨i, h1, a, b, h4, by omega⟩
  · rintro ⟨i, h1, h2, h3, h4, h5⟩
    have e := unb_closes h h1
    rw [if_neg (by rw [h2, decide_eq_true h3]; exact Bool.false_ne_true)] at e
    exact ⟨i, h1, by omega, by omega, h4⟩
theorem covered_drop {rs : List Rec} (h : unb rs) (k : Nat) {j : Nat} : covered (rs.drop k) j ↔ covered rs (k + j) := by
  rw [covered_iff (unb_drop h k), covered_iff h]
  constructor
  · rintro ⟨i, h1, h2, h3, h4, h5⟩
    rw [List.length_drop] at h1
    rw [recAt_drop] at h2 h3 h5
    exact ⟨k + i, by omega, h2, h3, by omega, by omega⟩
  · rintro ⟨i, h1, h2, h3, h4, h5⟩
    refine ⟨i - k, by rw [List.length_drop]; omega, ?_⟩
    rw [recAt_drop, show k + (i - k) = i by omega]
    exact ⟨h2, h3, by omega, by omega⟩
theorem lastPut_drop {rs : List Rec} (h : unb rs) (k : Nat) {j : Nat} : lastPut (rs.drop k) j ↔ lastPut rs (k + j) := by
  unfold lastPut lastAt
  rw [covered_drop h k, recAt_drop]
  constructor
  · rintro ⟨⟨h1, h2⟩, h3⟩
    refine ⟨⟨h1, fun j' hj hc => ?_⟩, h3⟩
    have := h2 (j' - k) (by omega) ((covered_drop h k).mpr (by rw [show k + (j' - k) = j' by omega]; exact hc))
    rwa [recAt_drop, show k + (j' - k) = j' by omega] at this
  · rintro ⟨⟨h1, h2⟩, h3⟩
    refine ⟨⟨h1, fun j' hj hc => ?_⟩, h3⟩
    rw [recAt_drop]
    exact h2 (k + j') (by omega) ((covered_drop h k).mp hc)
theorem lastPut_key {rs : List Rec} {i j : Nat} (hi : lastPut rs i) (hj : lastPut rs j) (h : (recAt rs i).key = (recAt rs j).key) : i = j := by
  rcases Nat.lt_trichotomy i j with q | q | q
  · exact absurd h.symm (hi.1.2 j q hj.1.1)
  · exact q
  · exact absurd h (hj.1.2 i q hi.1.1)
/-- the last words as pairs -/
theorem lasts_pairs (rs : List Rec) : ∃ ps : List Nat, lastsD rs = ps.map (fun j => pIS j (recAt rs j).key) ∧ (∀ j, j ∈ ps ↔ lastPut rs j) ∧ ps.Pairwise (fun a b => a < b) := by
  have g : ∀ ds : List PyData, (∀ d ∈ ds, ∃ j, lastPut rs j ∧ d = pIS j (recAt rs j).key) → ∃ ps : List Nat, ds = ps.map (fun j => pIS j (recAt rs j).key) ∧ ∀ j ∈ ps, lastPut rs j := by
    intro ds
    induction ds with
    | nil => intro _; exact ⟨[], rfl, fun j hj => by cases hj⟩
    | cons d l ih =>
      intro h
      obtain ⟨j, hj, rfl⟩ := h d List.mem_cons_self
      obtain ⟨ps, rfl, hp⟩ := ih fun d hd => h d (List.mem_cons_of_mem _ hd)
      refine ⟨j :: ps, rfl, fun i hi => ?_⟩
      rcases List.mem_cons.mp hi with q | q
      · rw [q]
        exact hj
      · exact hp i q
  obtain ⟨ps, e, hp⟩ := g (lastsD rs) fun d hd => mem_lastsD.mp hd
  refine ⟨ps, e, fun j => ⟨hp j, fun hj => ?_⟩, ?_⟩
  · have : pIS j (recAt rs j).key ∈ lastsD rs := mem_lastsD.mpr ⟨j, hj, rfl⟩
    rw [e] at this
    obtain ⟨i, hi, e2⟩ := List.mem_map.mp this
    rw [← (pIS_eq e2).1]
    exact hi
  · have s := lastsD_strict rs
    rw [e, List.pairwise_map] at s
    refine s.imp fun {a b} h => pIS_lt_iff h fun q => ?_
    rw [q, ltD_irrefl] at h
    cases h
theorem due_eq {rs : List Rec} (h : unb rs) {ps : List Nat} (hp : ∀ j, j ∈ ps ↔ lastPut rs j) (up : ps.Pairwise fun a b => a < b) (k : Nat) : (ps.filter fun j => decide (k ≤ j)).map (fun j => pIS (j - k) (recAt rs j).key) = lastsD (rs.drop k) := by
  refine strict_ext ?_ (lastsD_strict _) fun d => ?_
  · rw [List.pairwise_map]
    refine (List.Pairwise.filter _ up).imp_of_mem fun {a b} ha hb hab => pIS_lt _ _ ?_
    have h1 := of_decide_eq_true (List.mem_filter.mp ha).2
    omega
  · rw [List.mem_map, mem_lastsD]
    constructor
    · rintro ⟨j, hj, rfl⟩
      obtain ⟨m1, m2⟩ := List.mem_filter.mp hj
      have hk := of_decide_eq_true m2
      have e : k + (j - k) = j := by omega
      refine ⟨j - k, (lastPut_drop h k).mpr ?_, ?_⟩
      · rw [e]
        exact (hp j).mp m1
      · rw [recAt_drop, e]
    · rintro ⟨j, hj, rfl⟩
      refine ⟨k + j, List.mem_filter.mpr ⟨(hp _).mpr ((lastPut_drop h k).mp hj), decide_eq_true (by omega)⟩, ?_⟩
      rw [recAt_drop, show k + j - k = j by omega]
def wordsOf (rs : List Rec) (js : List Nat) : List PyData := js.map fun j => pSS (recAt rs j).key (recAt rs j).word
theorem words_nodup {rs : List Rec} {ps : List Nat} (hp : ∀ j ∈ ps, lastPut rs j) (up : ps.Pairwise fun a b => a < b) : (wordsOf rs ps).Nodup := by
  unfold wordsOf List.Nodup
  rw [List.pairwise_map]
  refine up.imp_of_mem fun {a b} ha hb hab e => ?_
  have := lastPut_key (hp a ha) (hp b hb) (pSS_eq e).1
  omega
theorem lore_eq {rs : List Rec} (h : unb rs) {ps : List Nat} (hp : ∀ j, j ∈ ps ↔ lastPut rs j) (up : ps.Pairwise fun a b => a < b) (k : Nat) : sortD' (wordsOf rs (ps.filter fun j => decide (k ≤ j))) = tableD (rs.drop k) := by
  have hs : ∀ j ∈ ps.filter (fun j => decide (k ≤ j)), lastPut rs j := fun j hj => (hp j).mp (List.mem_filter.mp hj).1
  refine strict_ext (sortD_strict (words_nodup hs (List.Pairwise.filter _ up)) (SS_inj fun d hd => ?_)) (tableD_strict _) fun d => ?_
  · obtain ⟨j, _, rfl⟩ := List.mem_map.mp hd
    exact ⟨_, _, rfl⟩
  · rw [sortD_mem, mem_tableD]
    unfold wordsOf
    rw [List.mem_map]
    constructor
    · rintro ⟨j, hj, rfl⟩
      obtain ⟨m1, m2⟩ := List.mem_filter.mp hj
      have hk := of_decide_eq_true m2
      have e : k + (j - k) = j := by omega
      refine ⟨j - k, (lastPut_drop h k).mpr ?_, ?_⟩
      · rw [e]
        exact (hp j).mp m1
      · rw [recAt_drop, e]
    · rintro ⟨j, hj, rfl⟩
      refine ⟨k + j, List.mem_filter.mpr ⟨(hp _).mpr ((lastPut_drop h k).mp hj), decide_eq_true (by omega)⟩, ?_⟩
      rw [recAt_drop]
/-- what can leave without a word lost -/
theorem spare_eq {rs : List Rec} (h : unb rs) {n : Nat} (hn : ∀ j, lastPut rs j → n ≤ j) : tableD (rs.drop n) = tableD rs := by
  refine strict_ext (tableD_strict _) (tableD_strict _) fun d => ?_
  rw [mem_tableD, mem_tableD]
  constructor
  · rintro ⟨j, hj, rfl⟩
    exact ⟨n + j, (lastPut_drop h n).mp hj, by rw [recAt_drop]⟩
  · rintro ⟨j, hj, rfl⟩
    have hk := hn j hj
    have e : n + (j - n) = j := by omega
    refine ⟨j - n, (lastPut_drop h n).mpr ?_, ?_⟩
    · rw [e]
      exact hj
    · rw [recAt_drop, e]
/-- the table as pairs -/
theorem table_pairs (rs : List Rec) : ∃ js : List Nat, tableD rs = wordsOf rs js ∧ (∀ j, j ∈ js ↔ lastPut rs j) ∧ (js.map fun j => (recAt rs j).key).Nodup := by
  have g : ∀ ds : List PyData, (∀ d ∈ ds, ∃ j, lastPut rs j ∧ d = pSS (recAt rs j).key (recAt rs j).word) → ∃ ps : List Nat, ds = wordsOf rs ps ∧ ∀ j ∈ ps, lastPut rs j := by
    intro ds
    induction ds with
    | nil => intro _; exact ⟨[], rfl, fun j hj => by cases hj⟩
    | cons d l ih =>
      intro h
      obtain ⟨j, hj, rfl⟩ := h d List.mem_cons_self
      obtain ⟨ps, rfl, hp⟩ := ih fun d hd => h d (List.mem_cons_of_mem _ hd)
      refine ⟨j :: ps, rfl, fun i hi => ?_⟩
      rcases List.mem_cons.mp hi with q | q
      · rw [q]
        exact hj
      · exact hp i q
  obtain ⟨ps, e, hp⟩ := g (tableD rs) fun d hd => mem_tableD.mp hd
  have nd : (wordsOf rs ps).Nodup := by
    rw [← e]
    exact (tableD_strict rs).imp fun {a b} h q => by
      rw [q, ltD_irrefl] at h
      cases h
  refine ⟨ps, e, fun j => ⟨hp j, fun hj => ?_⟩, ?_⟩
  · have : pSS (recAt rs j).key (recAt rs j).word ∈ tableD rs := mem_tableD.mpr ⟨j, hj, rfl⟩
    rw [e] at this
    obtain ⟨i, hi, e2⟩ := List.mem_map.mp this
    rw [← lastPut_key (hp i hi) hj (pSS_eq e2).1]
    exact hi
  · unfold wordsOf List.Nodup at nd
    rw [List.pairwise_map] at nd
    unfold List.Nodup
    rw [List.pairwise_map]
    refine nd.imp_of_mem fun {a b} ha hb hab q => hab ?_
    rw [lastPut_key (hp a ha) (hp b hb) q]
end HR

set_option Elab.async false
set_option linter.all false
set_option maxRecDepth 100000
set_option maxHeartbeats 4000000
namespace HR
open PySem PySem.Spec L2
/-! ### the rows given by hand -/
def lotH : List Rec := [.put "a" "x" 0 2, .drop "b" 1 1, .put "c" "z" 2 0]
def rowH : List Rec := .put "b" "y" 0 0 :: lotH
def badH : List Rec := [.put "b" "y" 0 0, .drop "b" 1 1, .put "c" "z" 2 0]
/-- sorted from what is at hand -/
theorem sort_is {ds es : List PyData} (hs : es.Pairwise fun x y => ltD x y = true) (nd : ds.Nodup) (inj : ∀ x ∈ ds, ∀ y ∈ ds, PySem.W.keyToks x = PySem.W.keyToks y → x = y) (hm : ∀ x, x ∈ ds ↔ x ∈ es) : sortD' ds = es := strict_ext (sortD_strict nd inj) hs fun x => sortD_mem.trans (hm x)
theorem table_is {rs : List Rec} {es ds : List PyData} (e : tableL rs = ds) (hs : es.Pairwise fun x y => ltD x y = true) (hm : ∀ x, x ∈ ds ↔ x ∈ es) : tableD rs = es := by
  unfold tableD
  subst e
  exact sort_is hs (tableL_nodup rs) (SS_inj fun d hd => by
    obtain ⟨j, _, rfl⟩ := mem_tableL.mp hd
    exact ⟨_, _, rfl⟩) hm
theorem lasts_is {rs : List Rec} {es ds : List PyData} (e : lastsL rs = ds) (hs : es.Pairwise fun x y => ltD x y = true) (hm : ∀ x, x ∈ ds ↔ x ∈ es) : lastsD rs = es := by
  unfold lastsD
  subst e
  refine sort_is hs (lastsL_nodup rs) (fun x hx y hy e => ?_) hm
  obtain ⟨j, _, rfl⟩ := mem_lastsL.mp hx
  obtain ⟨j', _, rfl⟩ := mem_lastsL.mp hy
  rw [(pIS_inj e).1]
theorem one_up (d : PyData) : [d].Pairwise fun x y => ltD x y = true := List.pairwise_singleton _ _
theorem two_up {a b : PyData} (h : ltD a b = true) : [a, b].Pairwise fun x y => ltD x y = true := by
  simp only [List.pairwise_cons, List.mem_singleton, forall_eq, List.not_mem_nil, false_implies, implies_true, List.Pairwise.nil, and_true]
  exact h
theorem nil_up : ([] : List PyData).Pairwise fun x y => ltD x y = true := List.Pairwise.nil
theorem swap_mem {a b : PyData} : ∀ x, x ∈ [a, b] ↔ x ∈ [b, a] := fun x => by
  simp only [List.mem_cons, List.not_mem_nil, or_false]
  exact Or.comm
theorem tH0 : tableD (rowH.drop 0) = [pSS "a" "x", pSS "c" "z"] := table_is (ds := [pSS "a" "x", pSS "c" "z"]) (by rfl) (two_up (by decide +kernel)) (fun x => Iff.rfl)
theorem tH1 : tableD (rowH.drop 1) = [pSS "a" "x", pSS "c" "z"] := table_is (ds := [pSS "a" "x", pSS "c" "z"]) (by rfl) (two_up (by decide +kernel)) (fun x => Iff.rfl)
theorem tH2 : tableD (rowH.drop 2) = [pSS "c" "z"] := table_is (ds := [pSS "c" "z"]) (by rfl) (one_up _) (fun x => Iff.rfl)
theorem tH3 : tableD (rowH.drop 3) = [pSS "c" "z"] := table_is (ds := [pSS "c" "z"]) (by rfl) (one_up _) (fun x => Iff.rfl)
theorem tH4 : tableD (rowH.drop 4) = [] := table_is (ds := []) (by rfl) nil_up (fun x => Iff.rfl)
theorem lH2 : lastsD (rowH.drop 2) = [pIS 1 "c"] := lasts_is (ds := [pIS 1 "c"]) (by rfl) (one_up _) (fun x => Iff.rfl)
theorem lH0 : lastsD (rowH) = [pIS 1 "a", pIS 3 "c"] := lasts_is (ds := [pIS 1 "a", pIS 3 "c"]) (by rfl) (two_up (by decide +kernel)) (fun x => Iff.rfl)
theorem sH0 : spareD rowH = .int 1 := by
  unfold spareD
  rw [lH0]
  rfl
theorem sH2 : spareD (rowH.drop 2) = .int 1 := by
  unfold spareD
  rw [lH2]
  rfl
theorem tH5 : tableD (rowH.take 3) = [pSS "b" "y"] := table_is (ds := [pSS "b" "y"]) (by rfl) (one_up _) (fun x => Iff.rfl)
theorem tH6 : tableD ((rowH.drop 1).take 2) = [] := table_is (ds := []) (by rfl) nil_up (fun x => Iff.rfl)
theorem tB0 : tableD (badH) = [pSS "b" "y"] := table_is (ds := [pSS "b" "y"]) (by rfl) (one_up _) (fun x => Iff.rfl)
theorem tB1 : tableD (badH.drop 1) = [pSS "c" "z"] := table_is (ds := [pSS "c" "z"]) (by rfl) (one_up _) (fun x => Iff.rfl)
theorem uB0 : unbrokenB badH = false := by decide +kernel
theorem uB1 : unbrokenB (badH.drop 1) = true := by decide +kernel
theorem rowH_ok : ∀ r ∈ rowH, recOk r = true := by
  have : rowH.all recOk = true := by decide +kernel
  exact List.all_eq_true.mp this
theorem badH_ok : ∀ r ∈ badH, recOk r = true := by
  have : badH.all recOk = true := by decide +kernel
  exact List.all_eq_true.mp this
theorem unb_B {rs : List Rec} : unbrokenB rs = true ↔ unb rs := by
  unfold unbrokenB
  rw [List.all_map, List.all_eq_true]
  constructor
  · intro h i a b ha hb
    refine h (a, b) (List.mem_of_getElem? (i := i) ?_)
    rw [List.getElem?_zip_eq_some]
    refine ⟨ha, ?_⟩
    rw [List.getElem?_drop, Nat.add_comm]
    exact hb
  · intro h x hx
    obtain ⟨i, hi⟩ := List.mem_iff_getElem?.mp hx
    rw [List.getElem?_zip_eq_some] at hi
    obtain ⟨h1, h2⟩ := hi
    rw [List.getElem?_drop, Nat.add_comm] at h2
    exact h i _ _ h1 h2
end HR

set_option Elab.async false
set_option linter.all false
set_option maxRecDepth 100000
set_option maxHeartbeats 4000000
namespace HR
open PySem PySem.Spec PyProof.Rows L2 Evl
def g1 : List PyData := [.tuple [pSS "a" "x", pSS "c" "z"], .tuple [pSS "a" "x", pSS "c" "z"], .tuple [pSS "c" "z"], .tuple [pSS "c" "z"], .tuple []]
def g2 : List PyData := [.tuple [pIS 1 "c"], .int 1, .int 1, .tuple [pSS "b" "y"], .tuple []]
def g3 : List PyData := [.tuple [pSS "b" "y"], .tuple [pSS "c" "z"], .bool false, .bool true]
theorem g1_eq : ((List.range 5).map fun k => PyData.tuple (tableD (rowH.drop k))) = g1 := by
  show [PyData.tuple (tableD (rowH.drop 0)), PyData.tuple (tableD (rowH.drop 1)), PyData.tuple (tableD (rowH.drop 2)), PyData.tuple (tableD (rowH.drop 3)), PyData.tuple (tableD (rowH.drop 4))] = _
  rw [tH0, tH1, tH2, tH3, tH4]
  rfl
theorem rowIn_drop {rs : List Rec} (g : ∀ r ∈ rs, recOk r = true) (hn : rs.length ≤ 40) (k : Nat) : RowIn (rowD (rs.drop k)) (rs.drop k) := rowIn_row (fun r hr => g r (List.mem_of_mem_drop hr)) (by rw [List.length_drop]; omega)
theorem rowIn_take {rs : List Rec} (g : ∀ r ∈ rs, recOk r = true) (hn : rs.length ≤ 40) (k : Nat) : RowIn (rowD (rs.take k)) (rs.take k) := rowIn_row (fun r hr => g r (List.mem_of_mem_take hr)) (by rw [List.length_take]; omega)
section
variable {P : Program} {w : World} {K : PySem.W.Frag} {mg : Str → Option Value} {base : Heap} {Γ : Ctx} {te tl : TE}
theorem eg_dropR {rs : List Rec} {k : Nat} {tk : TE} (h : EG K te Γ (rowD rs)) (hk : EG K tk Γ (.int (k : Nat))) : EG K (tSl (rSlA K) te (tPart tk) tNoPart) Γ (rowD (rs.drop k)) := eg_is (eg_slT h (og_some hk) og_none) (by rw [cut_from, ← List.map_drop]; rfl)
theorem eg_takeR {rs : List Rec} {k : Nat} {tk : TE} (h : EG K te Γ (rowD rs)) (hk : EG K tk Γ (.int (k : Nat))) : EG K (tSl (rSlA K) te tNoPart (tPart tk)) Γ (rowD (rs.take k)) := eg_is (eg_slT h og_none (og_some hk)) (by rw [cut_to, ← List.map_take]; rfl)
theorem eg_midR {rs : List Rec} {i j : Nat} {ti tj : TE} (h : EG K te Γ (rowD rs)) (hi : EG K ti Γ (.int (i : Nat))) (hj : EG K tj Γ (.int (j : Nat))) (h1 : i ≤ rs.length) (h2 : j ≤ rs.length) : EG K (tSl (rSlA K) te (tPart ti) (tPart tj)) Γ (rowD ((rs.drop i).take (j - i))) := eg_is (eg_slT h (og_some hi) (og_some hj)) (by rw [cut_map, cut_nat _ _ _ h1 h2]; rfl)
theorem scLawByHandRight : FnScope ["_law_lot_so", "_law_row_so", "_law_got", "_law_due", "_law_bad_so", "_law_k"] [] (defScope sLawByHandRight) := ⟨rfl, rfl, rfl, by decide +kernel, rfl, by decide +kernel, by decide +kernel⟩
def PYes (ds : List PyData) (d : PyData) : Prop := ds = [] ∧ d = .bool true
theorem ok__law_by_hand_right (T : Top K mg) : Ok P w K mg base 9 "_law_by_hand_right" [] (spD K PYes) := by
  have O_table_of : Ok P w K mg base 8 _ _ _ := ok_table_of T
  have O_last_words : Ok P w K mg base 8 _ _ _ := ok_last_words T
  have O_spare : Ok P w K mg base 8 _ _ _ := ok_spare T
  have O_is_unbroken : Ok P w K mg base 8 _ _ _ := ok_is_unbroken T
  have O__law_same : Ok P w K mg base 8 _ _ _ := (ok__law_same T 3).mono (by decide)
  refine ok_pure T 43 scLawByHandRight (fun ds d h => by obtain ⟨rfl, _⟩ := h; rfl) (fun _ _ _ _ _ _ us hl => match us, hl with | [], _ => rfl) (fun cdv A outer s H E hr => ⟨_, pss_cons (ps_set (i := 0) scLawByHandRight.nd rfl (.inl rfl) (pe_tup (pa_cons (pe_tup (pa_cons pe_str (pa_cons pe_str (pa_cons pe_str (pa_cons pe_int (pa_cons pe_int pa_nil)))))) (pa_cons (pe_tup (pa_cons pe_str (pa_cons pe_str (pa_cons pe_int (pa_cons pe_int pa_nil))))) (pa_cons (pe_tup (pa_cons pe_str (pa_cons pe_str (pa_cons pe_str (pa_cons pe_int (pa_cons pe_int pa_nil)))))) pa_nil)))))
      (pss_cons (ps_set (i := 1) scLawByHandRight.nd rfl (.inr rfl) (pe_op (r := rCatA K) op_catA (pe_tup (pa_cons (pe_tup (pa_cons pe_str (pa_cons pe_str (pa_cons pe_str (pa_cons pe_int (pa_cons pe_int pa_nil)))))) pa_nil)) (pv 0)))
      (pss_cons (ps_setLc (i := 2) (own := [("_law_k", 5)]) (g := (gName 5)) rfl scLawByHandRight.nd rfl rfl (sw_true rfl rfl rfl (by decide +kernel)) (pi_range1 (by rfl) T.rangeN (pa_cons pe_int pa_nil)) (blkOk_by (N := ["_law_lot_so", "_law_row_so", "_law_got", "_law_due", "_law_bad_so", "_law_k"]) (sc := defScope sLawByHandRight) (by decide +kernel)) (fun _ _ _ _ _ => (pg_name (i := 5) scLawByHandRight.nd rfl (Or.inl rfl))) (fun _ _ _ _ _ => pts_nil) (fun _ _ _ _ _ => (pe_cal O_table_of hr (pa_cons (pe_slice (r := rSlA K) sl_tupA (pv 1) (po_some (pv 5)) po_none) pa_nil))))
      (pss_cons (ps_set (i := 3) scLawByHandRight.nd rfl (.inl rfl) (pe_lst (pa_cons (pe_tup (pa_cons (pe_tup (pa_cons pe_str (pa_cons pe_str pa_nil))) (pa_cons (pe_tup (pa_cons pe_str (pa_cons pe_str pa_nil))) pa_nil))) (pa_cons (pe_tup (pa_cons (pe_tup (pa_cons pe_str (pa_cons pe_str pa_nil))) (pa_cons (pe_tup (pa_cons pe_str (pa_cons pe_str pa_nil))) pa_nil))) (pa_cons (pe_tup (pa_cons (pe_tup (pa_cons pe_str (pa_cons pe_str pa_nil))) pa_nil)) (pa_cons (pe_tup (pa_cons (pe_tup (pa_cons pe_str (pa_cons pe_str pa_nil))) pa_nil)) (pa_cons (pe_tup pa_nil) pa_nil)))))))
      (pss_cons (ps_set (i := 2) scLawByHandRight.nd rfl (.inl rfl) (pe_op (r := rCatS K) op_catS (pv 2) (pe_lst (pa_cons (pe_cal O_last_words hr (pa_cons (pe_slice (r := rSlA K) sl_tupA (pv 1) (po_some pe_int) po_none) pa_nil)) (pa_cons (pe_cal O_spare hr (pa_cons (pv 1) pa_nil)) (pa_cons (pe_cal O_spare hr (pa_cons (pe_slice (r := rSlA K) sl_tupA (pv 1) (po_some pe_int) po_none) pa_nil)) (pa_cons (pe_cal O_table_of hr (pa_cons (pe_slice (r := rSlA K) sl_tupA (pv 1) po_none (po_some pe_int)) pa_nil)) (pa_cons (pe_cal O_table_of hr (pa_cons (pe_slice (r := rSlA K) sl_tupA (pv 1) (po_some pe_int) (po_some pe_int)) pa_nil)) pa_nil))))))))
      (pss_cons (ps_set (i := 3) scLawByHandRight.nd rfl (.inl rfl) (pe_op (r := rCatS K) op_catS (pv 3) (pe_lst (pa_cons (pe_tup (pa_cons (pe_tup (pa_cons pe_int (pa_cons pe_str pa_nil))) pa_nil)) (pa_cons pe_int (pa_cons pe_int (pa_cons (pe_tup (pa_cons (pe_tup (pa_cons pe_str (pa_cons pe_str pa_nil))) pa_nil)) (pa_cons (pe_tup pa_nil) pa_nil))))))))
      (pss_cons (ps_set (i := 4) scLawByHandRight.nd rfl (.inl rfl) (pe_tup (pa_cons (pe_tup (pa_cons pe_str (pa_cons pe_str (pa_cons pe_str (pa_cons pe_int (pa_cons pe_int pa_nil)))))) (pa_cons (pe_ix (r := rIxT K) ix_tup (pv 0) pe_int (fun _ _ => rfl)) (pa_cons (pe_ix (r := rIxT K) ix_tup (pv 0) pe_int (fun _ _ => rfl)) pa_nil)))))
      (pss_cons (ps_set (i := 2) scLawByHandRight.nd rfl (.inl rfl) (pe_op (r := rCatS K) op_catS (pv 2) (pe_lst (pa_cons (pe_cal O_table_of hr (pa_cons (pv 4) pa_nil)) (pa_cons (pe_cal O_table_of hr (pa_cons (pe_slice (r := rSlA K) sl_tupA (pv 4) (po_some pe_int) po_none) pa_nil)) (pa_cons (pe_cal O_is_unbroken hr (pa_cons (pv 4) pa_nil)) (pa_cons (pe_cal O_is_unbroken hr (pa_cons (pe_slice (r := rSlA K) sl_tupA (pv 4) (po_some pe_int) po_none) pa_nil)) pa_nil)))))))
      (pss_one (ps_ret (pe_cal O__law_same hr (pa_cons (pv 2) (pa_cons (pe_op (r := rCatS K) op_catS (pv 3) (pe_lst (pa_cons (pe_tup (pa_cons (pe_tup (pa_cons pe_str (pa_cons pe_str pa_nil))) pa_nil)) (pa_cons (pe_tup (pa_cons (pe_tup (pa_cons pe_str (pa_cons pe_str pa_nil))) pa_nil)) (pa_cons pe_bl (pa_cons pe_bl pa_nil)))))) pa_nil)))))))))))), fun ds d h => ?_⟩)
  obtain ⟨rfl, rfl⟩ := h
  have r5 : rowH.length ≤ 40 := by decide
  have b3 : badH.length ≤ 40 := by decide
  have rH := rowIn_drop rowH_ok r5
  have rB := rowIn_drop badH_ok b3
  refine bg_asg (d := .tuple (lotH.map enc)) (eg_is (eg_tup (ag_cons (eg_tup (ag_cons eg_str (ag_cons eg_str (ag_cons eg_str (ag_cons eg_int (ag_cons eg_int ag_nil)))))) (ag_cons (eg_tup (ag_cons eg_str (ag_cons eg_str (ag_cons eg_int (ag_cons eg_int ag_nil))))) (ag_cons (eg_tup (ag_cons eg_str (ag_cons eg_str (ag_cons eg_str (ag_cons eg_int (ag_cons eg_int ag_nil)))))) ag_nil)))) rfl) ?_
  refine bg_asg (d := rowD rowH) (eg_is (eg_catT (eg_tup (ag_cons (eg_tup (ag_cons eg_str (ag_cons eg_str (ag_cons eg_str (ag_cons eg_int (ag_cons eg_int ag_nil)))))) ag_nil)) (eg_var rfl) (by decide)) rfl) ?_
  refine bg_asg (d := .list g1) (eg_is (eg_lc (js := [5]) (α := Nat) (enc := fun i => .int (i : Nat)) (xs := List.range 5) (src_rng1 (ag_cons (eg_is eg_int rfl) ag_nil) (by decide)) (fun i => [.dat (.tuple (lotH.map enc)), .dat (rowD rowH), .no, .no, .no, .dat (.int (i : Nat))]) (fun i _ => bnd_name) (fun k => .tuple (tableD (rowH.drop k))) (by decide)
    fun k _ => eg_call (ag_cons (eg_dropR (eg_var rfl) (eg_var rfl)) ag_nil) ⟨_, _, rH k, rfl, rfl⟩) (by rw [g1_eq])) ?_
  refine bg_asg (d := .list g1) (eg_is (eg_lst (ag_cons (eg_tup (ag_cons (eg_tup (ag_cons eg_str (ag_cons eg_str ag_nil))) (ag_cons (eg_tup (ag_cons eg_str (ag_cons eg_str ag_nil))) ag_nil))) (ag_cons (eg_tup (ag_cons (eg_tup (ag_cons eg_str (ag_cons eg_str ag_nil))) (ag_cons (eg_tup (ag_cons eg_str (ag_cons eg_str ag_nil))) ag_nil))) (ag_cons (eg_tup (ag_cons (eg_tup (ag_cons eg_str (ag_cons eg_str ag_nil))) ag_nil)) (ag_cons (eg_tup (ag_cons (eg_tup (ag_cons eg_str (ag_cons eg_str ag_nil))) ag_nil)) (ag_cons (eg_tup ag_nil) ag_nil)))))) rfl) ?_
  refine bg_asg (d := .list (g1 ++ g2)) (eg_catL (eg_var rfl) (eg_is (eg_lst (ag_cons (eg_call (ag_cons (eg_dropR (k := 2) (eg_var rfl) (eg_is eg_int rfl)) ag_nil) ⟨_, _, rH 2, rfl, rfl⟩) (ag_cons (eg_call (ag_cons (eg_var rfl) ag_nil) ⟨_, _, rH 0, rfl, rfl⟩) (ag_cons (eg_call (ag_cons (eg_dropR (k := 2) (eg_var rfl) (eg_is eg_int rfl)) ag_nil) ⟨_, _, rH 2, rfl, rfl⟩)
    (ag_cons (eg_call (ag_cons (eg_takeR (k := 3) (eg_var rfl) (eg_is eg_int rfl)) ag_nil) ⟨_, _, rowIn_take rowH_ok r5 3, rfl, rfl⟩) (ag_cons (eg_call (ag_cons (eg_midR (i := 1) (j := 3) (eg_var rfl) (eg_is eg_int rfl) (eg_is eg_int rfl) (by decide) (by decide)) ag_nil) ⟨_, _, rowIn_take (fun r hr => rowH_ok r (List.mem_of_mem_drop hr)) (by decide) 2, rfl, rfl⟩) ag_nil)))))) ?g2) (by decide)) ?_
  case g2 =>
    rw [lH2, sH2, tH5, tH6]
    have e : rowH.drop 0 = rowH := rfl
    rw [e, sH0]
    rfl
  refine bg_asg (d := .list (g1 ++ g2)) (eg_catL (eg_var rfl) (eg_is (eg_lst (ag_cons (eg_tup (ag_cons (eg_tup (ag_cons eg_int (ag_cons eg_str ag_nil))) ag_nil)) (ag_cons eg_int (ag_cons eg_int (ag_cons (eg_tup (ag_cons (eg_tup (ag_cons eg_str (ag_cons eg_str ag_nil))) ag_nil)) (ag_cons (eg_tup ag_nil) ag_nil)))))) rfl) (by decide)) ?_
  refine bg_asg (d := rowD badH) (eg_is (eg_tup (ag_cons (eg_tup (ag_cons eg_str (ag_cons eg_str (ag_cons eg_str (ag_cons eg_int (ag_cons eg_int ag_nil)))))) (ag_cons (eg_ixT (eg_var rfl) eg_int (d := enc (.drop "b" 1 1)) rfl) (ag_cons (eg_ixT (eg_var rfl) eg_int (d := enc (.put "c" "z" 2 0)) rfl) ag_nil)))) rfl) ?_
  refine bg_asg (d := .list (g1 ++ g2 ++ g3)) (eg_catL (eg_var rfl) (eg_is (eg_lst (ag_cons (eg_call (ag_cons (eg_var rfl) ag_nil) ⟨_, _, rB 0, rfl, rfl⟩) (ag_cons (eg_call (ag_cons (eg_dropR (k := 1) (eg_var rfl) (eg_is eg_int rfl)) ag_nil) ⟨_, _, rB 1, rfl, rfl⟩) (ag_cons (eg_call (ag_cons (eg_var rfl) ag_nil) ⟨_, _, rB 0, rfl, rfl⟩) (ag_cons (eg_call (ag_cons (eg_dropR (k := 1) (eg_var rfl) (eg_is eg_int rfl)) ag_nil) ⟨_, _, rB 1, rfl, rfl⟩) ag_nil))))) ?g3) (by decide)) ?_
  case g3 =>
    have e : badH.drop 0 = badH := rfl
    rw [e, tB0, tB1, uB0, uB1]
    rfl
  exact bg_ret (eg_call (ag_cons (eg_var rfl) (ag_cons (eg_catL (eg_var rfl) (eg_lst (ag_cons (eg_tup (ag_cons (eg_tup (ag_cons eg_str (ag_cons eg_str ag_nil))) ag_nil)) (ag_cons (eg_tup (ag_cons (eg_tup (ag_cons eg_str (ag_cons eg_str ag_nil))) ag_nil)) (ag_cons eg_bl (ag_cons eg_bl ag_nil))))) (by decide)) ag_nil)) ⟨.list (g1 ++ g2 ++ g3), rfl, rfl, rfl⟩)
end
end HR

set_option Elab.async false
set_option linter.all false
set_option maxRecDepth 100000
set_option maxHeartbeats 4000000
namespace HR
open PySem PySem.Spec PyProof.Rows L2 Evl
theorem put_all {α : Type} : ∀ (xs acc : List (L2.Key × α)), ((acc ++ xs).map (·.1)).Nodup → xs.foldl (fun kv x => putP kv x.1 x.2) acc = acc ++ xs
  | [], acc, _ => (List.append_nil _).symm
  | x :: xs, acc, hn => by
    have nx : x.1 ∉ acc.map (·.1) := fun m => by
      rw [List.map_append, List.nodup_append] at hn
      exact hn.2.2 _ m _ List.mem_cons_self rfl
    rw [List.foldl_cons, putP_new _ nx, put_all xs (acc ++ [(x.1, x.2)]) (by rw [List.append_assoc]; exact hn), List.append_assoc]
    rfl
section
variable {K : PySem.W.Frag} {H0 H : Hp} {M L : List Addr} {σ : L2.St} {Γ : Ctx} {t1 t2 : TE} {tz : TS} {D : Ends} {d1 : PyData}
theorem kvd_merge {xs : List (Key × V)} {ds : List (Key × PyData)} (h : KvD K H xs ds) : ∀ {acc : List (Key × V)} {accD : List (Key × PyData)}, KvD K H acc accD → KvD K H (mergeK acc xs) (ds.foldl (fun kv x => putP kv x.1 x.2) accD) := by
  induction h with
  | nil => intro acc accD ha; exact ha
  | cons h t ih =>
    intro acc accD ha
    unfold mergeK
    rw [List.foldl_cons, List.foldl_cons, h.1]
    exact ih (kvd_put ha h.2)
/-- the pairs of a table, as they lie -/
theorem words_at {rs : List Rec} : ∀ {js : List Nat} {ys : List V}, DpAll K H ys (wordsOf rs js) → ∃ ps : List Addr, ys = ps.map V.ref ∧ Paired (fun p (kv : Key × V) => SqT K H p [kV kv.1, kv.2]) ps (js.map fun j => (.inr (recAt rs j).key, .str (recAt rs j).word))
  | [], _, h => by
    cases h
    exact ⟨[], rfl, .nil⟩
  | j :: js, _, h => by
    cases h with
    | cons h1 h2 =>
      obtain ⟨ps, rfl, hp⟩ := words_at h2
      cases h1 with
      | @tup a xs _ hs hx =>
        obtain ⟨v, v', rfl, q1, q2⟩ := ag_2 hx
        cases q1
        cases q2
        exact ⟨a :: ps, rfl, .cons hs hp⟩
def wordKvs (rs : List Rec) (js : List Nat) : List (Key × PyData) := js.map fun j => (.inr (recAt rs j).key, .str (recAt rs j).word)
theorem kvd_words (rs : List Rec) : ∀ js : List Nat, KvD K H (js.map fun j => (.inr (recAt rs j).key, V.str (recAt rs j).word)) (wordKvs rs js)
  | [] => .nil
  | _ :: js => .cons ⟨rfl, .str _⟩ (kvd_words rs js)
theorem dg_dict {X : XK} {ta : TA} {rs : List Rec} {js : List Nat} (h : AG K ta Γ [rowD rs]) (hn : rs.length ≤ 40) (hg : ∀ r ∈ rs, recOk r = true) (hj : tableD rs = wordsOf rs js) (nd : (js.map fun j => (recAt rs j).key).Nodup) : DG K (tCB (rDictT K) (tCons (tCall (spLore K) [] X ta) tNil)) Γ (wordKvs rs js) := fun H0 M L σ H E Q q => by
  refine h H0 M L σ H E _ fun vs H1 e1 h1 => ?_
  obtain ⟨v, rfl, hv⟩ := ag_1 h1
  refine ⟨L, v, rs, (E.mono e1).live, rfl, hv, hn, hg, fun a ob ys H' e2 na ha hob hy => ?_⟩
  rw [hj] at hy
  obtain ⟨ps, rfl, hp⟩ := words_at hy
  have E2 := (E.mono e1).mono e2
  refine ⟨a, ob, ps, _, rfl, ha, hob, Paired.mono (fun p kv z => ex_t (er_ex L H') z) hp, fun p np => ?_⟩
  refine q p _ _ (fresh_back (e1.trans e2) np) ((e1.trans e2).trans (Ex.new np)) upd_same ?_
  have e : (wordKvs rs js).foldl (fun kv x => putP kv x.1 x.2) [] = wordKvs rs js := by
    rw [put_all _ _ (by
      rw [List.nil_append]
      unfold wordKvs List.Nodup
      rw [List.map_map, List.pairwise_map]
      unfold List.Nodup at nd
      rw [List.pairwise_map] at nd
      exact nd.imp fun z w => z (Sum.inr.inj w)), List.nil_append]
  rw [← e]
  exact kvd_merge (kvd_words rs js) .nil
/-- x, y = e, a new dict -/
theorem sg_two {i j : Nat} {kvs : List (Key × PyData)} (E : Env K H0 M L σ H Γ) (h1 : EG K t1 Γ d1) (h2 : DG K t2 Γ kvs) (k : ∀ p σ' H', Ex H H' → Env K H0 M L σ' H' ((Γ.set i (.dat d1)).set j (.rd p kvs)) → tz D σ' H') (hi : i < Γ.length := by exact Nat.le_of_ble_eq_true rfl) (hj : j < Γ.length := by exact Nat.le_of_ble_eq_true rfl) :
    tSeq (tAsg (tTup (tCons t1 (tCons t2 tNil))) (gTup K 2 (gCons (gName i) (gCons (gName j) gNil)))) tz D σ H := by
  refine h1 H0 M L σ H E _ fun v1 H1 e1 hv1 => h2 H0 M L σ H1 (E.mono e1) _ fun p H2 ws np e2 hp hk => ?_
  refine ⟨by show 2 ≤ sizeLine; decide, fun T hT => ?_⟩
  have E2 := (E.mono e1).mono e2
  have nT := E2.fresh hT
  have nP := (E.mono e1).fresh np
  have e3 := Ex.new (o := .tup [v1, .ref p]) hT
  refine ⟨T, _, rfl, .inl (.inl upd_same), rfl, v1, _, rfl, .ref p, _, rfl, rfl, ?_⟩
  have E3 := E2.mono e3
  refine k p _ _ ((e1.trans e2).trans e3) ((E3.set hi (dp_mono (er_mono (e2.trans e3)) _ _ hv1)).put (by rw [List.length_set]; exact hj) ⟨ws, rfl, .inl ?_, ?_⟩)
  · rw [er_out nP]
    exact e3 _ _ hp
  · exact kvd_mono ((er_less fun a m => List.mem_cons_of_mem _ m).trans (er_mono e3)) hk
end
/-! ### what is compared -/
theorem okT_SS (k w : Str) : okT 1 (pSS k w) = true := rfl
theorem okT_IS (n : Nat) (k : Str) : okT 1 (pIS n k) = true := rfl
theorem tableD_len (rs : List Rec) : (tableD rs).length ≤ rs.length := by
  show ((tableL rs).mergeSort _).length ≤ _
  rw [List.length_mergeSort]
  unfold tableL
  rw [List.length_map]
  exact puts_short rs
theorem lastsD_len (rs : List Rec) : (lastsD rs).length ≤ rs.length := by
  show ((lastsL rs).mergeSort _).length ≤ _
  rw [List.length_mergeSort]
  unfold lastsL
  rw [List.length_map]
  exact puts_short rs
theorem ok_table {rs : List Rec} (h : rs.length ≤ 41) : okT 2 (.tuple (tableD rs)) = true := by
  have := tableD_len rs
  show (decide ((tableD rs).length ≤ 1000) && (tableD rs).all (okT 1)) = true
  rw [decide_eq_true (by omega), Bool.true_and, List.all_eq_true]
  intro d hd
  obtain ⟨j, _, rfl⟩ := mem_tableD.mp hd
  exact okT_SS _ _
theorem ok_lasts {rs : List Rec} (h : rs.length ≤ 41) : okT 2 (.tuple (lastsD rs)) = true := by
  have := lastsD_len rs
  show (decide ((lastsD rs).length ≤ 1000) && (lastsD rs).all (okT 1)) = true
  rw [decide_eq_true (by omega), Bool.true_and, List.all_eq_true]
  intro d hd
  obtain ⟨j, _, rfl⟩ := mem_lastsD.mp hd
  exact okT_IS _ _
theorem okT_up : ∀ (n : Nat) {x : PyData}, okT n x = true → okT (n + 1) x = true
  | 0, x, h => by
    obtain hs | ⟨m, _, e, _⟩ := okT_scal h
    · cases x <;> first | rfl | cases hs
    · cases e
  | n + 1, x, h => by
    obtain hs | ⟨m, ds, e, he, hl, hd⟩ := okT_scal h
    · cases x <;> first | rfl | cases hs
    · cases e
      have all : ds.all (okT (n + 1)) = true := List.all_eq_true.mpr fun d m => okT_up n (hd d m)
      rcases he with rfl | rfl
      · show (decide (ds.length ≤ 1000) && ds.all (okT (n + 1))) = true
        rw [decide_eq_true hl, all]
        rfl
      · show (decide (ds.length ≤ 1000) && ds.all (okT (n + 1))) = true
        rw [decide_eq_true hl, all]
        rfl
theorem ok_two {x y : PyData} (h1 : okT 2 x = true) (h2 : okT 2 y = true) : okT 3 (.list [x, y]) = true := by
  show (decide (([x, y] : List PyData).length ≤ 1000) && ([x, y] : List PyData).all (okT 2)) = true
  rw [List.all_cons, List.all_cons, List.all_nil, h1, h2]
  rfl
/-- spare, by the places of the last words -/
theorem spare_is {rs : List Rec} {ps : List Nat} (e : lastsD rs = ps.map fun j => pIS j (recAt rs j).key) : spareD rs = .int ((ps.headD rs.length : Nat) : Int) := by
  unfold spareD
  rw [e]
  cases ps with
  | nil => rfl
  | cons j l => rfl
theorem head_least {ps : List Nat} {n : Nat} (up : ps.Pairwise fun a b => a < b) : ∀ j ∈ ps, ps.headD n ≤ j := by
  cases ps with
  | nil => intro j hj; cases hj
  | cons a l =>
    intro j hj
    rcases List.mem_cons.mp hj with q | q
    · rw [q]
      exact Nat.le_refl _
    · exact Nat.le_of_lt ((List.pairwise_cons.mp up).1 j q)
section
variable {P : Program} {w : World} {K : PySem.W.Frag} {mg : Str → Option Value} {base : Heap}
theorem scLawRight : FnScope ["_law_tin", "_law_row_so", "_law_k", "_law_n", "_law_due", "_law_bent_so", "_law_lasts_so", "_law_words_so", "_law_left_so", "_law_lore_here", "_law_own"] ["_law_tin"] (defScope sLawRight) := ⟨rfl, rfl, rfl, by decide +kernel, rfl, by decide +kernel, by decide +kernel⟩
def spRight : Sp := fun vs H Q _ => ∃ a, vs = [.ref a] ∧ TinAt H a 0 ∧ ∀ H', Ex (er [a] H) (er [a] H') → Q (.bl true) H'
theorem ok__law_right (T : Top K mg) : Ok P w K mg base 9 "_law_right" ["_law_tin"] spRight := by
  have O_is_unbroken : Ok P w K mg base 8 _ _ _ := ok_is_unbroken T
  have O_table_of : Ok P w K mg base 8 _ _ _ := ok_table_of T
  have O_last_words : Ok P w K mg base 8 _ _ _ := ok_last_words T
  have O_window_of : Ok P w K mg base 8 _ _ _ := ok_window_of T
  have O_tables_behind : Ok P w K mg base 8 _ _ _ := ok_tables_behind T
  have O_spare_K : OkK P w K mg base 8 _ _ _ _ := okK_spare T
  have O__law_same : Ok P w K mg base 8 _ _ _ := (ok__law_same T 3).mono (by decide)
  have O__law_lists : Ok P w K mg base 8 _ _ _ := (ok__law_lists T 2).mono (by decide)
  have O__law_row : Ok P w K mg base 8 _ _ _ := (ok__law_row T).mono (by decide)
  have O__law_take : Ok P w K mg base 8 _ _ _ := (ok__law_take T).mono (by decide)
  have O__law_lasts : Ok P w K mg base 8 _ _ _ := (ok__law_lasts T).mono (by decide)
  have O__law_lore : Ok P w K mg base 8 _ _ _ := (ok__law_lore T).mono (by decide)
  have O__law_whole : Ok P w K mg base 8 _ _ _ := (ok__law_whole T).mono (by decide)
  have O__law_blank : Ok P w K mg base 8 _ _ _ := (ok__law_blank T).mono (by decide)
  refine ok_def T 44 44 scLawRight (fun vs H Q E h => by obtain ⟨a, rfl, _⟩ := h; rfl) (fun _ _ _ _ _ _ us hl => match us, hl with | [_], _ => rfl) (fun cdv A outer s H vs Q E hr h => ?_)
  obtain ⟨a, rfl, ht, q⟩ := h
  refine ⟨_, pss_cons (ps_set (i := 1) scLawRight.nd rfl (.inr rfl) (pe_callTy (r := rTupS K) call_tupS (by rfl) T.tupleN (by decide +kernel) (pa_cons (pe_cal O__law_row hr (pa_cons (pv 0) (pa_cons pe_int pa_nil))) pa_nil)))
      (pss_cons (ps_if (pt_not (pt_val (pe_cal O__law_same hr (pa_cons (pe_cal O_is_unbroken hr (pa_cons (pe_cal O__law_lists hr (pa_cons (pv 1) pa_nil)) pa_nil)) (pa_cons pe_bl pa_nil))))) (pss_one (ps_ret pe_bl)) pss_nil)
      (pss_cons (ps_asg (pe_tup (pa_cons (pe_cal O__law_lasts hr (pa_cons (pv 1) pa_nil)) (pa_cons (pe_callTy (r := rDictT K) (call_dictT rfl) (by rfl) T.dictN (by decide +kernel) (pa_cons (pe_cal O__law_lore hr (pa_cons (pv 1) pa_nil)) pa_nil)) pa_nil))) (pg_tup rfl (pgs_cons (pg_name (i := 6) scLawRight.nd rfl (Or.inl rfl)) (pgs_cons (pg_name (i := 7) scLawRight.nd rfl (Or.inr rfl)) pgs_nil))))
      (pss_cons (ps_for PassesOwn.never rfl (pi_range1 (by rfl) T.rangeN (pa_cons (pe_op op_add (pe_callB (r := rLenX K) call_lenX (by rfl) T.lenN (by decide +kernel) (pa_cons (pv 1) pa_nil)) pe_int) pa_nil)) (pg_name (i := 2) scLawRight.nd rfl (Or.inr rfl))
      (pss_cons (ps_set (i := 8) scLawRight.nd rfl (.inl rfl) (pe_slice (r := rSlA K) sl_tupA (pv 1) (po_some (pv 2)) po_none))
      (pss_cons (ps_setLc (i := 4) (own := [("_law_own", 10)]) (g := (gName 10)) rfl scLawRight.nd rfl rfl (sw_true rfl rfl rfl (by decide +kernel)) (pi_list (pv 6)) (blkOk_by (N := ["_law_tin", "_law_row_so", "_law_k", "_law_n", "_law_due", "_law_bent_so", "_law_lasts_so", "_law_words_so", "_law_left_so", "_law_lore_here", "_law_own"]) (sc := defScope sLawRight) (by decide +kernel)) (fun _ _ _ _ _ => (pg_name (i := 10) scLawRight.nd rfl (Or.inl rfl))) (fun _ _ _ _ _ => (pts_one (pt_cmpR op_ge (pe_ix (r := rIxT K) ix_tup (pv 10) pe_int (fun _ _ => rfl)) (pv 2) (nomark _)))) (fun _ _ _ _ _ => (pe_tup (pa_cons (pe_op op_sub (pe_ix (r := rIxT K) ix_tup (pv 10) pe_int (fun _ _ => rfl)) (pv 2)) (pa_cons (pe_ix (r := rIxT K) ix_tup (pv 10) pe_int (fun _ _ => rfl)) pa_nil)))))
      (pss_cons (ps_set (i := 9) scLawRight.nd rfl (.inl rfl) (pe_callTy (r := rTupS K) call_tupS (by rfl) T.tupleN (by decide +kernel) (pa_cons (pe_callB (r := rSortD K) (cr_sortD hr.units) (by rfl) T.sortedN (by decide +kernel) (pa_cons (pe_lc (own := [("_law_own", 10)]) (g := (gName 10)) rfl scLawRight.nd (pi_list (pv 4)) (blkOk_by (N := ["_law_tin", "_law_row_so", "_law_k", "_law_n", "_law_due", "_law_bent_so", "_law_lasts_so", "_law_words_so", "_law_left_so", "_law_lore_here", "_law_own"]) (sc := defScope sLawRight) (by decide +kernel)) (fun _ _ _ _ _ => (pg_name (i := 10) scLawRight.nd rfl (Or.inl rfl))) (fun _ _ _ _ _ => pts_nil) (fun _ _ _ _ _ => (pe_tup (pa_cons (pe_ix (r := rIxT K) ix_tup (pv 10) pe_int (fun _ _ => rfl)) (pa_cons (pe_dget (hu_of hr) (pv 7) (pe_ix (r := rIxT K) ix_tup (pv 10) pe_int (fun _ _ => rfl)) (fun _ _ => rfl)) pa_nil))))) pa_nil)) pa_nil)))
      (pss_cons (ps_if (pt_not (pt_val (pe_cal O__law_same hr (pa_cons (pe_lst (pa_cons (pe_cal O_last_words hr (pa_cons (pv 8) pa_nil)) (pa_cons (pe_cal O_table_of hr (pa_cons (pv 8) pa_nil)) pa_nil))) (pa_cons (pe_lst (pa_cons (pe_callTy (r := rTupS K) call_tupS (by rfl) T.tupleN (by decide +kernel) (pa_cons (pv 4) pa_nil)) (pa_cons (pv 9) pa_nil))) pa_nil))))) (pss_one (ps_ret pe_bl)) pss_nil)
      (pss_one (ps_if (pt_not (pt_val (pe_cal O__law_same hr (pa_cons (pe_cal O_table_of hr (pa_cons (pe_cal O_window_of hr (pa_cons (pv 1) (pa_cons (pe_callB (r := rLenX K) call_lenX (by rfl) T.lenN (by decide +kernel) (pa_cons (pv 8) pa_nil)) pa_nil))) pa_nil)) (pa_cons (pv 9) pa_nil))))) (pss_one (ps_ret pe_bl)) pss_nil)))))))
      (pss_cons (ps_set (i := 3) scLawRight.nd rfl (.inl rfl) (pe_calK O_spare_K hr (pv 1)))
      (pss_cons (ps_if (pt_not (pt_val (pe_cal O__law_same hr (pa_cons (pe_lst (pa_cons (pv 3) (pa_cons (pe_cal O_table_of hr (pa_cons (pe_slice (r := rSlA K) sl_tupA (pv 1) (po_some (pv 3)) po_none) pa_nil)) pa_nil))) (pa_cons (pe_lst (pa_cons (pe_ifExp (pt_cmpR (r := rNeD K) (op_neD hr.units) (pv 6) (pe_lst pa_nil) (nomark _)) (pe_ix (r := rIxT K) ix_tup (pe_ix (r := rIxL K) ix_list (pv 6) pe_int (fun _ _ => rfl)) pe_int (fun _ _ => rfl)) (pe_callB (r := rLenX K) call_lenX (by rfl) T.lenN (by decide +kernel) (pa_cons (pv 1) pa_nil))) (pa_cons (pe_cal O__law_lore hr (pa_cons (pv 1) pa_nil)) pa_nil))) pa_nil))))) (pss_one (ps_ret pe_bl)) pss_nil)
      (pss_cons (ps_set (i := 2) scLawRight.nd rfl (.inr rfl) (pe_cal O__law_take hr (pa_cons (pv 0) (pa_cons (pe_op op_add (pe_callB (r := rLenX K) call_lenX (by rfl) T.lenN (by decide +kernel) (pa_cons (pv 1) pa_nil)) pe_int) pa_nil))))
      (pss_cons (ps_setLc (i := 4) (own := [("_law_n", 3)]) (g := (gName 3)) rfl scLawRight.nd rfl rfl (sw_true rfl rfl rfl (by decide +kernel)) (pi_range1 (by rfl) T.rangeN (pa_cons (pe_op op_add (pe_op op_sub (pe_callB (r := rLenX K) call_lenX (by rfl) T.lenN (by decide +kernel) (pa_cons (pv 1) pa_nil)) (pv 2)) pe_int) pa_nil)) (blkOk_by (N := ["_law_tin", "_law_row_so", "_law_k", "_law_n", "_law_due", "_law_bent_so", "_law_lasts_so", "_law_words_so", "_law_left_so", "_law_lore_here", "_law_own"]) (sc := defScope sLawRight) (by decide +kernel)) (fun _ _ _ _ _ => (pg_name (i := 3) scLawRight.nd rfl (Or.inl rfl))) (fun _ _ _ _ _ => pts_nil) (fun _ _ _ _ _ => (pe_cal O__law_lore hr (pa_cons (pe_slice (r := rSlA K) sl_tupA (pv 1) (po_some (pv 3)) (po_some (pe_op op_add (pv 3) (pv 2)))) pa_nil))))
      (pss_cons (ps_if (pt_not (pt_val (pe_cal O__law_same hr (pa_cons (pe_cal O_tables_behind hr (pa_cons (pe_slice (r := rSlA K) sl_tupA (pv 1) po_none (po_some (pv 2))) (pa_cons (pe_slice (r := rSlA K) sl_tupA (pv 1) (po_some (pv 2)) po_none) pa_nil))) (pa_cons (pv 4) pa_nil))))) (pss_one (ps_ret pe_bl)) pss_nil)
      (pss_cons (ps_set (i := 5) scLawRight.nd rfl (.inl rfl) (pe_op (r := rCatA K) op_catA (pe_op (r := rCatA K) op_catA (pe_slice (r := rSlA K) sl_tupA (pv 1) po_none (po_some (pv 2))) (pe_tup (pa_cons (pe_cal0 O__law_blank hr) pa_nil))) (pe_slice (r := rSlA K) sl_tupA (pv 1) (po_some (pv 2)) po_none)))
      (pss_one (ps_ret (pe_cal O__law_same hr (pa_cons (pe_lst (pa_cons (pe_cal O_is_unbroken hr (pa_cons (pv 5) pa_nil)) (pa_cons (pe_cal O_table_of hr (pa_cons (pv 5) pa_nil)) pa_nil))) (pa_cons (pe_lst (pa_cons (pe_cal O__law_whole hr (pa_cons (pv 5) pa_nil)) (pa_cons (pe_cal O__law_lore hr (pa_cons (pv 5) pa_nil)) pa_nil))) pa_nil)))))))))))))), ?_⟩
  have hlive : ∀ b ∈ [a], ∃ o, H b = some o := fun b hb => by
    rw [List.mem_singleton.mp hb]
    obtain ⟨_, _, _, z, _⟩ := ht
    exact ⟨_, z⟩
  have E0 := env_tin (K := K) (N := ["_law_tin", "_law_row_so", "_law_k", "_law_n", "_law_due", "_law_bent_so", "_law_lasts_so", "_law_words_so", "_law_left_so", "_law_lore_here", "_law_own"]) (ds := []) (us := []) hlive List.mem_cons_self .nil ht
  refine sg_asgD (i := 0) (k := 104) E0 List.mem_cons_self (dr_callT (Pd := fun d => ∃ rs, Drawn rs 24 ∧ d = rowD rs) (da_cons (dr_call (k := 104) (Pre := fun ds => ds = [.int (6 : Nat)]) (Post := PostFresh) (ag_cons eg_int ag_nil) (by omega) rfl) fun d2 e2 => da_nil) ?tup) fun d σ1 H1 ⟨rs, hrs, ed⟩ E1 => ?_
  case tup =>
    rintro _ ⟨d1, _, rfl, ⟨rs, hrs, rfl⟩, rfl⟩ L H vs hl hv Q q
    obtain ⟨v, rfl, hv1⟩ := ag_1 hv
    cases hv1 with
    | @lst p xs _ hs hx =>
      refine ⟨_, _, rfl, .inl ⟨ex_l (er_ex L H) hs, fun c hc => ?_⟩⟩
      have nc : c ∉ L := fun m => by
        obtain ⟨o, e⟩ := hl c m
        rw [hc] at e
        cases e
      have e4 := Ex.new (o := .tup xs) hc
      refine q _ _ _ ⟨rs, hrs, rfl⟩ e4 (.tup (.inl (.inl ?_)) (dps_mono (er_mono e4) _ _ hx))
      rw [er_out nc]
      exact upd_same
  subst ed
  have hu := hrs.unb
  have hg := hrs.good
  have hn : rs.length ≤ 24 := hrs.short
  have hn40 : rs.length ≤ 40 := by omega
  have hB : unbrokenB rs = true := unb_B.mpr hu
  have rD := rowIn_drop hg hn40
  have rT := rowIn_take hg hn40
  have r0 := rowIn_row hg hn40
  obtain ⟨ps, hps, pm, up⟩ := lasts_pairs rs
  obtain ⟨js, hjs, jm, jn⟩ := table_pairs rs
  refine sg_if (b := false) E1 (tg_is (tg_not (tg_B (eg_call (P := PSame 3) (ag_cons (eg_is (d' := .bool true) (eg_call (P := PIsUnbroken) (ag_cons (eg_call (P := PLists 2) (ag_cons (eg_var rfl) ag_nil) ⟨_, r0.ok, rfl, rfl⟩) ag_nil) ⟨_, rs, rowIn_lis hg hn40, rfl, rfl⟩) (by rw [hB])) (ag_cons eg_bl ag_nil)) ⟨_, rfl, rfl, rfl⟩))) rfl) (fun h => by cases h) fun _ H2 e2 E2 => ?_
  refine sg_two (i := 6) (j := 7) E2 (eg_call (P := PLawLasts) (ag_cons (eg_var rfl) ag_nil) ⟨rs, hn40, hg, rfl, rfl⟩) (dg_dict (ag_cons (eg_var rfl) ag_nil) hn40 hg hjs jn) fun p σ3 H3 e3 E3 => ?_
  refine sg_for (α := Nat) (enc := fun i => .int (i : Nat)) (xs := List.range (rs.length + 1)) (js := [2]) (fun _ => [.tin a (0 + 104), .dat (rowD rs), .no, .no, .no, .no, .dat (.list (lastsD rs)), .rd p (wordKvs rs js), .no, .no, .no])
    (fun _ k => [.tin a (0 + 104), .dat (rowD rs), .dat (.int (k : Nat)), .no, .no, .no, .dat (.list (lastsD rs)), .rd p (wordKvs rs js), .no, .no, .no]) E3
    (src_rng1 (ag_cons (eg_is (eg_II (eg_lenXT (eg_var rfl)) eg_int) (by rw [List.length_map]; congr 1)) ag_nil) (by omega)) (fun i x _ => bnd_name) ?_ ?_
  · intro i k B' σ4 H4 N hx hB' E4 hN
    have hk : k ≤ rs.length := by
      have hi := (List.getElem?_eq_some_iff.mp hx).1
      rw [List.length_range] at hi
      rw [List.getElem?_range hi] at hx
      have := Option.some.inj hx
      omega
    refine sg_asg E4 (eg_dropR (eg_var rfl) (eg_var rfl)) fun σ5 H5 e5 E5 => ?_
    refine sg_asg (d := .list ((ps.filter fun j => decide (k ≤ j)).map fun j => pIS (j - k) (recAt rs j).key)) E5 (eg_lcF (js := [10]) (α := Nat) (enc := fun j => pIS j (recAt rs j).key) (xs := ps) (src_is (src_list (eg_var rfl)) hps)
      (fun j => [.tin a (0 + 104), .dat (rowD rs), .dat (.int (k : Nat)), .no, .no, .no, .dat (.list (lastsD rs)), .rd p (wordKvs rs js), .dat (rowD (rs.drop k)), .no, .dat (pIS j (recAt rs j).key)]) (fun j _ => bnd_name) (fun j => decide (k ≤ j)) (fun j => pIS (j - k) (recAt rs j).key) ?len (fun j _ => ?tst) (fun j _ hj => ?elt)) fun σ6 H6 e6 E6 => ?_
    case len =>
      have := lastsD_len rs
      rw [hps, List.length_map] at this
      omega
    case tst =>
      refine tg_is (tg_T (eg_IB (eg_ixT (ds := [.int (j : Nat), .str (recAt rs j).key]) (eg_var rfl) eg_int rfl) (eg_var rfl))) ?_
      rw [decide_eq_decide]
      omega
    case elt =>
      have hj := of_decide_eq_true hj
      exact eg_tup (ag_cons (eg_is (d' := .int ((j - k : Nat) : Int)) (eg_II (eg_ixT (ds := [.int (j : Nat), .str (recAt rs j).key]) (eg_var rfl) eg_int rfl) (eg_var rfl)) (by congr 1; omega)) (ag_cons (eg_ixT (ds := [.int (j : Nat), .str (recAt rs j).key]) (eg_var rfl) eg_int rfl) ag_nil))
    obtain ⟨s1, s2, s3⟩ := SS_sorts (ds := wordsOf rs (ps.filter fun j => decide (k ≤ j))) fun d hd => by
      obtain ⟨j, _, rfl⟩ := List.mem_map.mp hd
      exact ⟨_, _, rfl⟩
    refine sg_asg (d := .tuple (tableD (rs.drop k))) E6 (eg_is (eg_tupL (eg_sort (eg_lc (js := [10]) (α := Nat) (enc := fun j => pIS (j - k) (recAt rs j).key) (xs := ps.filter fun j => decide (k ≤ j)) (src_list (eg_var rfl))
      (fun j => [.tin a (0 + 104), .dat (rowD rs), .dat (.int (k : Nat)), .no, .dat (.list ((ps.filter fun j => decide (k ≤ j)).map fun j => pIS (j - k) (recAt rs j).key)), .no, .dat (.list (lastsD rs)), .rd p (wordKvs rs js), .dat (rowD (rs.drop k)), .no, .dat (pIS (j - k) (recAt rs j).key)]) (fun j _ => bnd_name) (fun j => pSS (recAt rs j).key (recAt rs j).word) ?len2 (fun j hj => ?elt2)) s1 s2 s3)) ?srt) fun σ7 H7 e7 E7 => ?_
    case len2 =>
      have := lastsD_len rs
      rw [hps, List.length_map] at this
      have := List.length_filter_le (fun j => decide (k ≤ j)) ps
      omega
    case elt2 =>
      have hl : lastPut rs j := (pm j).mp (List.mem_filter.mp hj).1
      refine eg_tup (ag_cons (eg_ixT (ds := [.int ((j - k : Nat) : Int), .str (recAt rs j).key]) (eg_var rfl) eg_int rfl) (ag_cons (eg_getR (i := 7) rfl (eg_ixT (ds := [.int ((j - k : Nat) : Int), .str (recAt rs j).key]) (eg_var rfl) eg_int rfl) ?_) ag_nil))
      refine getP_mem (α := PyData) (x := (.inr (recAt rs j).key, PyData.str (recAt rs j).word)) ?_ (List.mem_map.mpr ⟨j, (jm j).mpr hl, rfl⟩)
      unfold wordKvs List.Nodup
      rw [List.map_map, List.pairwise_map]
      unfold List.Nodup at jn
      rw [List.pairwise_map] at jn
      exact jn.imp fun z w => z (Sum.inr.inj w)
    case srt => exact congrArg PyData.tuple (lore_eq hu pm up k)
    have hdrop : (rs.drop k).length ≤ 41 := by
      rw [List.length_drop]
      omega
    refine sg_if (b := false) E7 (tg_is (tg_not (tg_B (eg_call (P := PSame 3) (ag_cons (eg_lst (ag_cons (eg_call (P := PLastWords) (ag_cons (eg_var rfl) ag_nil) ⟨_, _, rD k, rfl, rfl⟩) (ag_cons (eg_call (P := PTableOf) (ag_cons (eg_var rfl) ag_nil) ⟨_, _, rD k, rfl, rfl⟩) ag_nil)))
      (ag_cons (eg_lst (ag_cons (eg_is (eg_tupL (eg_var rfl)) (congrArg PyData.tuple (due_eq hu pm up k))) (ag_cons (eg_var rfl) ag_nil))) ag_nil)) ⟨_, ok_two (ok_lasts hdrop) (ok_table hdrop), rfl, rfl⟩))) rfl) (fun h => by cases h) fun _ H8 e8 E8 => ?_
    refine sl_if (b := false) E8 (tg_is (tg_not (tg_B (eg_call (P := PSame 3) (ag_cons (eg_is (d' := .tuple (tableD (rs.drop k))) (eg_call (P := PTableOf) (ag_cons (eg_call (P := PWindowOf) (ag_cons (eg_var rfl) (ag_cons (eg_is (d' := .int ((rs.length - k : Nat) : Int)) (eg_lenXT (eg_var rfl)) (by rw [List.length_map, List.length_drop])) ag_nil)) ⟨_, rs, rs.length - k, r0, by omega, rfl, rfl⟩) ag_nil) ⟨_, _, rD _, rfl, rfl⟩) (by rw [show rs.length - (rs.length - k) = k by omega]))
      (ag_cons (eg_var rfl) ag_nil)) ⟨_, okT_up 2 (ok_table hdrop), rfl, rfl⟩))) rfl) (fun h => by cases h) fun _ H9 e9 E9 => ?_
    exact hN _ _ ((((E9.forget 2).forget 4).forget 8).forget 9)
  · intro σ4 H4 E4
    have hsp := spare_is hps
    generalize hm : ps.headD rs.length = m at hsp
    have hleast : ∀ j, lastPut rs j → m ≤ j := fun j hj => by
      rw [← hm]
      exact head_least up j ((pm j).mpr hj)
    have hml : m ≤ rs.length := by
      rw [← hm]
      cases e : ps with
      | nil => exact Nat.le_refl _
      | cons j l =>
        have : lastPut rs j := (pm j).mp (by rw [e]; exact List.mem_cons_self)
        exact Nat.le_of_lt (covered_lt this.1.1)
    refine sg_asg (d := .int (m : Nat)) E4 (eg_is (eg_call (P := PSpare) (ag_cons (eg_var rfl) ag_nil) ⟨_, rs, r0, rfl, rfl⟩) hsp) fun σ5 H5 e5 E5 => ?_
    refine sg_if (b := false) E5 (tg_is (tg_not (tg_B (eg_call (P := PSame 3) (ag_cons (eg_lst (ag_cons (eg_var rfl) (ag_cons (eg_is (eg_call (P := PTableOf) (ag_cons (eg_dropR (eg_var rfl) (eg_var rfl)) ag_nil) ⟨_, _, rD m, rfl, rfl⟩) (congrArg PyData.tuple (spare_eq hu hleast))) ag_nil)))
      (ag_cons (eg_lst (ag_cons (eg_if (tg_T (eg_ne (eg_var rfl) (eg_lst ag_nil) (shaped_lst (lastsD_pairs hg)) nil_shaped)) (fun h => ?yes) fun h => ?no) (ag_cons (eg_lore (ag_cons (eg_var rfl) ag_nil) hn40 hg) ag_nil))) ag_nil)) ⟨_, ok_two rfl (ok_table (by omega)), rfl, rfl⟩))) rfl) (fun h => by cases h) fun _ H6 e6 E6 => ?_
    case yes =>
      rw [eqv_nilL] at h
      cases e : ps with
      | nil =>
        rw [hps, e] at h
        cases h
      | cons j l =>
        rw [e] at hm
        have hj : j = m := hm
        refine eg_ixT (ds := [.int (j : Nat), .str (recAt rs j).key]) (eg_ixL (eg_var rfl) eg_int ?_) eg_int (by rw [hj]; rfl)
        rw [hps, e]
        exact atI_nat (j := 0) rfl
    case no =>
      rw [eqv_nilL] at h
      cases e : ps with
      | nil =>
        rw [e] at hm
        have hj : rs.length = m := hm
        exact eg_is (eg_lenXT (eg_var rfl)) (by rw [List.length_map, hj])
      | cons j l =>
        rw [hps, e] at h
        cases h
    refine sg_asgD (i := 1) (k := 1) E6 List.mem_cons_self (dr_call (Pre := PreTake) (Post := PostTake) (ag_cons (eg_is (d' := .int ((rs.length + 1 : Nat) : Int)) (eg_II (eg_lenXT (eg_var rfl)) eg_int) (by rw [List.length_map]; congr 1)) ag_nil) (by omega) ⟨rs.length + 1, rfl, by omega, by omega⟩) fun d σ7 H7 ⟨b, r, e1, hr1, ed⟩ E7 => ?_
    injection e1 with e1
    injection e1 with e1
    have hrl : r ≤ rs.length := by omega
    subst ed
    refine sg_asg (d := .list ((List.range (rs.length - r + 1)).map fun far => .tuple (tableD ((rs.drop far).take r)))) E7 (eg_lc (js := [3]) (α := Nat) (enc := fun i => .int (i : Nat)) (xs := List.range (rs.length - r + 1)) (src_rng1 (ag_cons (eg_is (eg_II (eg_II (eg_lenXT (eg_var rfl)) (eg_var rfl)) eg_int) (by rw [List.length_map]; congr 1; omega)) ag_nil) (by omega))
      (fun far => [.tin a (0 + 104 + 1), .dat (rowD rs), .dat (.int (r : Nat)), .dat (.int (far : Nat)), .no, .no, .dat (.list (lastsD rs)), .rd p (wordKvs rs js), .no, .no, .no]) (fun far _ => bnd_name) _ (by rw [List.length_range]; omega) fun far hfar => ?elt3) fun σ8 H8 e8 E8 => ?_
    case elt3 =>
      have hfar := List.mem_range.mp hfar
      refine eg_is (eg_lore (ag_cons (eg_midR (i := far) (j := far + r) (eg_var rfl) (eg_var rfl) (eg_is (eg_II (eg_var rfl) (eg_var rfl)) (by congr 1)) (by omega) (by omega)) ag_nil) (by rw [List.length_take, List.length_drop]; omega) fun z hz => hg z (List.mem_of_mem_drop (List.mem_of_mem_take hz))) ?_
      rw [show far + r - far = r by omega]
    have htl : (rs.take r).length = r := by
      rw [List.length_take]
      omega
    refine sg_if (b := false) E8 (tg_is (tg_not (tg_B (eg_call (P := PSame 3) (ag_cons (eg_is (d' := .list ((List.range (rs.length - r + 1)).map fun far => .tuple (tableD ((rs.drop far).take r)))) (eg_call (P := PTablesBehind) (ag_cons (eg_takeR (eg_var rfl) (eg_var rfl)) (ag_cons (eg_dropR (eg_var rfl) (eg_var rfl)) ag_nil)) ⟨_, _, rs.take r, rs.drop r, rT r, rD r, by rw [List.length_take, List.length_drop]; omega, rfl, rfl⟩) ?tb) (ag_cons (eg_var rfl) ag_nil)) ⟨_, ?okl, rfl, rfl⟩))) rfl) (fun h => by cases h) fun _ H9 e9 E9 => ?_
    case tb => rw [List.take_append_drop, htl, List.length_drop]
    case okl =>
      show (decide (((List.range (rs.length - r + 1)).map fun far => PyData.tuple (tableD ((rs.drop far).take r))).length ≤ 1000) && ((List.range (rs.length - r + 1)).map fun far => PyData.tuple (tableD ((rs.drop far).take r))).all (okT 2)) = true
      rw [List.length_map, List.length_range, decide_eq_true (by omega), Bool.true_and, List.all_map, List.all_eq_true]
      intro far _
      exact ok_table (by rw [List.length_take, List.length_drop]; omega)
    have gb : ∀ z ∈ rs.take r ++ [Rec.blank] ++ rs.drop r, recOk z = true := fun z hz => by
      rcases List.mem_append.mp hz with h | h
      · rcases List.mem_append.mp h with h | h
        · exact hg z (List.mem_of_mem_take h)
        · rw [List.mem_singleton.mp h]
          rfl
      · exact hg z (List.mem_of_mem_drop h)
    have lb : (rs.take r ++ [Rec.blank] ++ rs.drop r).length ≤ 25 := by
      rw [List.length_append, List.length_append, List.length_take, List.length_drop, List.length_singleton]
      omega
    refine sg_asg (d := rowD (rs.take r ++ [.blank] ++ rs.drop r)) E9 (eg_is (eg_catT (eg_catT (eg_takeR (eg_var rfl) (eg_var rfl)) (eg_tup (ag_cons (eg_call (P := PBlank) ag_nil ⟨rfl, rfl⟩) ag_nil)) ?z1) (eg_dropR (eg_var rfl) (eg_var rfl)) ?z2) ?z3) fun σ10 H10 e10 E10 => ?_
    case z1 =>
      rw [List.length_map, htl, List.length_singleton]
      omega
    case z2 =>
      rw [List.length_append, List.length_map, List.length_map, htl, List.length_singleton, List.length_drop]
      omega
    case z3 =>
      unfold rowD
      rw [List.map_append, List.map_append]
      rfl
    generalize rs.take r ++ [Rec.blank] ++ rs.drop r = bs at gb lb E10
    have rb := rowIn_row gb (by omega)
    refine sl_ret E10 (eg_call (P := PSame 3) (ag_cons (eg_lst (ag_cons (eg_call (P := PIsUnbroken) (ag_cons (eg_var rfl) ag_nil) ⟨_, bs, rb, rfl, rfl⟩) (ag_cons (eg_call (P := PTableOf) (ag_cons (eg_var rfl) ag_nil) ⟨_, bs, rb, rfl, rfl⟩) ag_nil)))
      (ag_cons (eg_lst (ag_cons (eg_call (P := PWhole) (ag_cons (eg_var rfl) ag_nil) ⟨bs, by omega, gb, rfl, rfl⟩) (ag_cons (eg_lore (ag_cons (eg_var rfl) ag_nil) (by omega) gb) ag_nil))) ag_nil)) ⟨_, ok_two rfl (ok_table (by omega)), rfl, rfl⟩) fun v H11 e11 E11 hv => ?_
    cases hv
    exact q H11 E11.base
end
end HR

set_option Elab.async false
set_option linter.all false
set_option maxRecDepth 100000
set_option maxHeartbeats 4000000
namespace HR
open PySem PySem.Spec PyProof.Rows L2 Evl
theorem b01 (b : Bool) : -(2 ^ 64) < (if b = true then (1 : Int) else 0) ∧ (if b = true then (1 : Int) else 0) < 2 ^ 64 := by cases b <;> decide
theorem b0 (b : Bool) : 0 ≤ (if b = true then (1 : Int) else 0) := by cases b <;> decide
theorem dp3 {K : PySem.W.Frag} {H : Hp} {x y z : Int} {vs : List V} (h : DpAll K H vs [.int x, .int y, .int z]) : vs = [.int x, .int y, .int z] := by
  cases h with
  | cons h1 h =>
    cases h with
    | cons h2 h =>
      cases h with
      | cons h3 h =>
        cases h
        cases h1
        cases h2
        cases h3
        rfl
theorem box_pow {K : PySem.W.Frag} {Γ : Ctx} : ∃ big, EG K (tOp (rI CPow fun i j => .int (i ^ j.toNat)) (tC (.int 10)) (tC (.int 18))) Γ (.int big) := ⟨_, eg_IC (C := CPow) (g := fun i j => i ^ j.toNat) (eg_int (n := 10)) (eg_int (n := 18)) ⟨by decide, by decide, by decide⟩⟩
/-- what the box is made of -/
theorem box_ag {K : PySem.W.Frag} {s k : PyData} {z : Int} {kk : Nat} (hk : k = .int (kk : Nat)) (hkk : kk ≤ 1000) : ∃ x y : Int, 0 ≤ x ∧ 0 ≤ y ∧ y < 4611686018427387904 ∧
    AG K (tCons (tOp (rI CMul fun i j => .int (i * j)) (tCB rAbs (tCons (tVar 2) tNil)) (tCB rInt1 (tCons (tOp (rI0 fun i j => .bl (decide (j ≤ i))) (tCB rAbs (tCons (tVar 2) tNil)) (tOp (rI CPow fun i j => .int (i ^ j.toNat)) (tC (.int 10)) (tC (.int 18)))) tNil)))
      (tCons (tOp (rI0 fun i j => .int (i + j)) (tOp (rI0 fun i j => .int (i + j)) (tOp (rI (fun _ j => 0 < j) fun i j => .int (i % j)) (tCB rInt1 (tCons (tVar 2) tNil)) (tC (.int 2305843009213693951))) (tOp (rI CMul fun i j => .int (i * j)) (tC (.int 39373)) (tVar 1))) (tC (.int 3182038))) (tCons (tC (.int 0)) tNil)))
      [.dat s, .dat k, .dat (.int z)] [.int x, .int y, .int 0] := by
  subst hk
  have h3 : 0 ≤ z % 2305843009213693951 := Int.emod_nonneg _ (by decide)
  have h4 : z % 2305843009213693951 < 2305843009213693951 := Int.emod_lt_of_pos _ (by decide)
  obtain ⟨big, e1⟩ := box_pow (K := K) (Γ := [.dat s, .dat (.int (kk : Nat)), .dat (.int z)])
  have e2 := eg_intB (eg_IB (g := fun i j => decide (j ≤ i)) (eg_abs (eg_var (i := 2) rfl)) e1)
  generalize decide (big ≤ if z < 0 then -z else z) = bb at e2
  refine ⟨(if z < 0 then -z else z) * (if bb = true then 1 else 0), z % 2305843009213693951 + 39373 * kk + 3182038, ?_, ?_, ?_, ?_⟩
  · refine Int.mul_nonneg ?_ (b0 _)
    split <;> omega
  · omega
  · omega
  · exact ag_cons (eg_IC (C := CMul) (g := fun a b => a * b) (eg_abs (eg_var (i := 2) rfl)) e2 (.inr (b01 _))) (ag_cons (eg_II (g := fun a b => a + b) (eg_II (g := fun a b => a + b) (eg_IC (C := fun _ j => 0 < j) (g := fun a b => a % b) (eg_int1 (eg_var (i := 2) rfl)) (eg_int (n := 2305843009213693951)) (by decide)) (eg_IC (C := CMul) (g := fun a b => a * b) (eg_int (n := 39373)) (eg_var (i := 1) rfl) (.inl ⟨by decide, by decide⟩))) (eg_int (n := 3182038))) (ag_cons (eg_int (n := 0)) ag_nil))
theorem ints_map {K : PySem.W.Frag} {H : Hp} {ns : List Int} {vs : List V} (h : DpAll K H vs (ns.map PyData.int)) : vs = ns.map V.int := by
  induction ns generalizing vs with
  | nil =>
    cases h
    rfl
  | cons n l ih =>
    cases h with
    | cons h1 h2 =>
      cases h1
      rw [ih h2]
      rfl
section
variable {P : Program} {w : World} {K : PySem.W.Frag} {mg : Str → Option Value} {base : Heap}
theorem scLawBox : FnScope ["_law_script", "_law_k", "_law_bit_so"] ["_law_script", "_law_k"] (defScope sLawBox) := ⟨rfl, rfl, rfl, by decide +kernel, rfl, by decide +kernel, by decide +kernel⟩
def spBox (K : PySem.W.Frag) : Sp := fun vs H Q _ => ∃ (L : List Addr) (us : List V) (is : List Int) (k : Nat), (∀ a ∈ L, ∃ o, H a = some o) ∧ vs = us ∧ DpAll K (er L H) us [.list (is.map PyData.int), .int (k : Nat)] ∧ k < is.length ∧ k ≤ 1000 ∧
  ∀ p H', H p = none → Ex H H' → TinAt H' p 0 → Q (.ref p) H'
theorem ok__law_box (T : Top K mg) : Ok P w K mg base 1 "_law_box" ["_law_script", "_law_k"] (spBox K) := by
  refine ok_def T 26 26 scLawBox (fun vs H Q E h => by obtain ⟨L, us, is, k, _, rfl, hd, _⟩ := h; rw [dps_len hd]; rfl) (fun _ _ _ _ _ _ us hl => match us, hl with | [_, _], _ => rfl) (fun cdv A outer s H vs Q E hr h => ?_)
  obtain ⟨L, us, is, k, hl, rfl, hd, hk, hk2, q⟩ := h
  refine ⟨_, pss_cons (ps_set (i := 2) scLawBox.nd rfl (.inl rfl) (pe_ifExp (pt_cmpR op_lt (pv 1) (pe_callB (r := rLenX K) call_lenX (by rfl) T.lenN (by decide +kernel) (pa_cons (pv 0) pa_nil)) (nomark _)) (pe_ix (r := rIxL K) ix_list (pv 0) (pv 1) (fun _ _ => rfl)) pe_int))
      (pss_one (ps_ret (pe_lst (pa_cons (pe_op op_mul (pe_callB call_absX (by rfl) T.absN (by decide +kernel) (pa_cons (pv 2) pa_nil)) (pe_callTy call_intX (by rfl) T.intN (by decide +kernel) (pa_cons (pe_cmpR op_ge (pe_callB call_absX (by rfl) T.absN (by decide +kernel) (pa_cons (pv 2) pa_nil)) (pe_op op_pow pe_int pe_int) (nomark _)) pa_nil))) (pa_cons (pe_op op_add (pe_op op_add (pe_op op_mod (pe_callTy call_intX (by rfl) T.intN (by decide +kernel) (pa_cons (pv 2) pa_nil)) pe_int) (pe_op op_mul pe_int (pv 1))) pe_int) (pa_cons pe_int pa_nil)))))), ?_⟩
  have E1 := env_start (N := ["_law_script", "_law_k", "_law_bit_so"]) hl hd
  have hat : atI (is.map PyData.int) (k : Nat) = some (.int (is.getD k 0)) := by
    refine atI_nat ?_
    rw [List.getElem?_map, List.getD_eq_getElem?_getD, List.getElem?_eq_getElem hk]
    rfl
  generalize is.getD k 0 = z at hat
  refine sg_asg (d := .int z) E1 (eg_if (b := true) (tg_is (tg_T (eg_IB (eg_var rfl) (eg_lenXL (eg_var rfl)))) ?lt) (fun _ => eg_ixL (eg_var rfl) (eg_var rfl) hat) (fun h => by cases h)) fun σ2 H2 e2 E2 => ?_
  case lt =>
    rw [List.length_map]
    exact decide_eq_true (by omega)
  obtain ⟨x, y, hx, hy1, hy2, args⟩ := box_ag (K := K) (s := .list (is.map PyData.int)) (z := z) (kk := k) rfl hk2
  delta tRet tLst
  dsimp only
  refine args H [] L σ2 H2 E2 _ fun vs H3 e3 hv => ?_
  refine ⟨Nat.le_trans (by rw [dps_len hv]; exact Nat.le_of_ble_eq_true rfl) (by decide : 1000 ≤ sizeLine), fun p hp => ?_⟩
  refine q p _ (fresh_back (e2.trans e3) hp) ((e2.trans e3).trans (Ex.new hp)) ?_
  rw [dp3 hv]
  exact ⟨x, y, 0, upd_same, hx, hy1, hy2, Int.le_refl _, Int.le_refl _⟩
theorem scLawCells : FnScope ["_law_script", "_law_most_so", "_law_cells_so", "_law_k", "_law_bit_so", "_law_at_so"] ["_law_script", "_law_most_so"] (defScope sLawCells) := ⟨rfl, rfl, rfl, by decide +kernel, rfl, by decide +kernel, by decide +kernel⟩
def PCells (ds : List PyData) (d : PyData) : Prop := ∃ is js : List Int, is.length ≤ 63 ∧ ds = [.list (is.map PyData.int), .int (2 : Nat)] ∧ js.length ≤ 2 ∧ d = .list (js.map PyData.int)
/-- the promise of the numbers: some numbers, two at most -/
def spCells (K : PySem.W.Frag) : Sp := fun vs H Q _ => ∃ (L : List Addr) (is : List Int), (∀ a ∈ L, ∃ o, H a = some o) ∧ DpAll K (er L H) vs [.list (is.map PyData.int), .int (2 : Nat)] ∧ is.length ≤ 63 ∧
  ∀ v H' (js : List Int), js.length ≤ 2 → Ex H H' → Dp K (er L H') v (.list (js.map PyData.int)) → Q v H'
theorem ok__law_cells (T : Top K mg) : Ok P w K mg base 1 "_law_cells" ["_law_script", "_law_most_so"] (spCells K) := by
  refine ok_def T 28 28 scLawCells (fun vs H Q E h => by obtain ⟨L, is, _, hd, _⟩ := h; rw [dps_len hd]; rfl) (fun _ _ _ _ _ _ us hl => match us, hl with | [_, _], _ => rfl) (fun cdv A outer s H vs Q E hr h => ?_)
  obtain ⟨L, is, hl, hd, hn, q⟩ := h
  refine ⟨_, pss_cons (ps_set (i := 2) scLawCells.nd rfl (.inl rfl) (pe_orT (pe_callTy (r := rListS K) call_listS (by rfl) T.listN (by decide +kernel) (pa_cons (pe_slice (r := rSlL K) sl_list (pv 0) po_none (po_some (pv 1))) pa_nil)) (pe_one (pe_lst (pa_cons pe_int pa_nil)))))
      (pss_cons (ps_for PassesOwn.never rfl (pi_enum (by rfl) T.enumerateN (pa_cons (pe_slice (r := rSlL K) sl_list (pv 0) (po_some (pv 1)) (po_some pe_int)) pa_nil)) (pg_tup rfl (pgs_cons (pg_name (i := 3) scLawCells.nd rfl (Or.inl rfl)) (pgs_cons (pg_name (i := 4) scLawCells.nd rfl (Or.inl rfl)) pgs_nil)))
      (pss_cons (ps_set (i := 5) scLawCells.nd rfl (.inl rfl) (pe_op op_mod (pe_callTy call_intX (by rfl) T.intN (by decide +kernel) (pa_cons (pv 3) pa_nil)) (pv 1)))
      (pss_one (ps_asg (pe_op op_add (pe_ix (r := rIxL K) ix_list (pv 2) (pv 5) (fun _ _ => rfl)) (pe_op op_mul (pv 4) (pe_op op_add (pv 3) pe_int))) (pg_sub (pv 2) (pv 5) set_list)))))
      (pss_one (ps_ret (pv 2)))), ?_⟩
  have E1 := env_start (N := ["_law_script", "_law_most_so", "_law_cells_so", "_law_k", "_law_bit_so", "_law_at_so"]) hl hd
  have go : ∀ (p : Addr) (cs : List Int) (σ2 : L2.St) (H2 : Hp), p ∉ L → cs.length ≤ 2 → (2 ≤ is.length → cs.length = 2) → Env K H [p] (p :: L) σ2 H2 [.dat (.list (is.map PyData.int)), .dat (.int (2 : Nat)), .lst p (cs.map PyData.int), .no, .no, .no] →
      (tSeq (tFor (iEnum K (tCons (tSl (rSlL K) (tVar 0) (tPart (tVar 1)) (tPart (tC (.int 63)))) tNil)) (gTup K 2 (gCons (gName 3) (gCons (gName 4) gNil))) (tSeq (tAsg (tOp (rI (fun _ j => 0 < j) fun i j => .int (i % j)) (tCB rInt1 (tCons (tVar 3) tNil)) (tVar 1)) (gName 5)) (tAsg (tOp (rI0 fun i j => .int (i + j)) (tOp (rIxL K) (tVar 2) (tVar 5)) (tOp (rI CMul fun i j => .int (i * j)) (tVar 4) (tOp (rI0 fun i j => .int (i + j)) (tVar 3) (tC (.int 2))))) (gSub (tVar 2) (tVar 5) rSetL)))) (tRet (tVar 2)))
        { nx := fun _ H' => Q .non H', rt := Q } σ2 H2 := by
    intro p cs0 σ2 H2 np hc1 hc2 E2
    have hlen : ∀ (i : Nat) (x : Int × Nat), (cutD is (some (2 : Int)) (some (63 : Int))).zipIdx[i]? = some x → 2 ≤ is.length ∧ x.2 = i ∧ i < 63 := fun i x hx => by
      have h1 := (List.getElem?_eq_some_iff.mp hx).1
      rw [List.length_zipIdx] at h1
      have h2 : (cutD is (some (2 : Int)) (some (63 : Int))).length ≤ is.length - min 2 is.length := by
        unfold cutD
        rw [List.length_take, List.length_drop, show (2 : Int) = ((2 : Nat) : Int) from rfl, HT.sIx_nat]
        exact Nat.min_le_right _ _
      rw [List.getElem?_zipIdx] at hx
      cases e : (cutD is (some (2 : Int)) (some (63 : Int)))[i]? with
      | none =>
        rw [e] at hx
        cases hx
      | some z =>
        rw [e] at hx
        have := Option.some.inj hx
        rw [← this]
        exact ⟨by omega, by show 0 + i = i; omega, by omega⟩
    refine sg_forX (α := Int × Nat) (β := List Int) (enc := fun x => .tuple [.int (x.2 : Nat), .int x.1]) (xs := (cutD is (some (2 : Int)) (some (63 : Int))).zipIdx) (js := [3, 4]) (fun _ cs => [.dat (.list (is.map PyData.int)), .dat (.int (2 : Nat)), .lst p (cs.map PyData.int), .no, .no, .no]) (fun _ x cs => [.dat (.list (is.map PyData.int)), .dat (.int (2 : Nat)), .lst p (cs.map PyData.int), .dat (.int (x.2 : Nat)), .dat (.int x.1), .no]) (fun _ cs => cs.length = cs0.length) cs0 rfl E2
      (src_is (src_enumL (ag_cons (eg_slL (eg_var rfl) (og_some (eg_var rfl)) (og_some eg_int)) ag_nil)) ?its) (fun i x b _ _ => bnd_two) ?_ ?_
    case its =>
      rw [show ((2 : Nat) : Int) = (2 : Int) from rfl, cut_map, List.zipIdx_map, List.map_map]
      rfl
    · intro i x cs B' σ3 H3 N hx hI hB E3 hN
      obtain ⟨h1, h2, h3⟩ := hlen i x hx
      have hcs : cs.length = 2 := by rw [hI, hc2 h1]
      have hm : x.2 % 2 < 2 := Nat.mod_lt _ (by decide)
      refine sg_asg (d := .int ((x.2 % 2 : Nat) : Int)) E3 (eg_is (eg_IC (C := fun _ j => 0 < j) (g := fun a b => a % b) (eg_int1 (eg_var rfl)) (eg_var rfl) (by decide)) (by congr 1)) fun σ4 H4 e4 E4 => ?_
      refine sl_setI (j := x.2 % 2) (d := .int (cs.getD (x.2 % 2) 0 + x.1 * ((x.2 : Int) + 2))) E4 rfl List.mem_cons_self (eg_II (g := fun a b => a + b) (eg_ixO rfl (eg_var rfl) ?_) (eg_IC (C := CMul) (g := fun a b => a * b) (eg_var rfl) (eg_II (g := fun a b => a + b) (eg_var rfl) eg_int) (.inr ⟨by omega, by omega⟩))) (eg_var rfl) (by rw [List.length_map, hcs]; exact hm) fun H5 E5 => ?_
      · refine atI_nat ?_
        rw [List.getElem?_map, List.getD_eq_getElem?_getD, List.getElem?_eq_getElem (by rw [hcs]; exact hm)]
        rfl
      · refine hN (cs.set (x.2 % 2) (cs.getD (x.2 % 2) 0 + x.1 * ((x.2 : Int) + 2))) _ _ (by rw [List.length_set, hI]) ?_
        rw [List.map_set]
        exact ((E5.forget 3).forget 4).forget 5
    · intro cs σ3 H3 hI E3
      refine sl_retL E3 rfl fun vs h1 h2 => ?_
      obtain ⟨r1, r2⟩ := end_list E3 np h1 h2
      exact q _ _ cs (by omega) r1 r2
  have sl : EG K (tSl (rSlL K) (tVar 0) tNoPart (tPart (tVar 1))) [.dat (.list (is.map PyData.int)), .dat (.int (2 : Nat)), .no, .no, .no, .no] (.list ((is.take 2).map PyData.int)) := eg_is (eg_slL (eg_var rfl) og_none (og_some (eg_var rfl))) (by rw [cut_to, List.map_take])
  refine sl H [] L _ H E1 _ fun v H1 e1 h1 => ?_
  have E2 := E1.mono e1
  cases h1 with
  | @lst b ys _ hs hy =>
    refine ⟨b, ys, rfl, .inl (ex_l (er_ex L H1) hs), fun p hp => ⟨!ys.isEmpty, .inl ⟨ys, .inl (.inl upd_same), rfl⟩, ?_⟩⟩
    have np := E2.fresh hp
    have ly := dps_len hy
    rw [List.length_map, List.length_take] at ly
    by_cases he : ys = []
    · subst he
      rw [if_neg (by simp)]
      have E3 := E2.mono (Ex.new (o := .lst []) hp)
      refine ⟨by show 1 ≤ sizeLine; decide, fun p2 hp2 => ?_⟩
      have np2 := E3.fresh hp2
      have E4 := (E3.more (o := .lst [.int 0]) hp2).put (i := 2) (by exact Nat.le_of_ble_eq_true rfl) (v := .ref p2) (x := .lst p2 (([0] : List Int).map PyData.int)) ⟨_, rfl, List.mem_cons_self, upd_same, .cons (.int 0) .nil⟩
      exact go p2 [0] _ _ np2 (by decide) (fun h => by
        rw [List.length_nil] at ly
        omega) E4
    · rw [if_pos (by cases ys with | nil => exact absurd rfl he | cons a l => rfl)]
      have e5 : er (p :: L) (upd H1 p (.lst ys)) = er L H1 := by rw [er_upd List.mem_cons_self, er_cons hp]
      have E4 := (E2.more (o := .lst ys) hp).put (i := 2) (by exact Nat.le_of_ble_eq_true rfl) (v := .ref p) (x := .lst p ((is.take 2).map PyData.int)) ⟨_, rfl, List.mem_cons_self, upd_same, by rw [e5]; exact hy⟩
      exact go p (is.take 2) _ _ np (by rw [List.length_take]; omega) (fun h => by rw [List.length_take]; omega) E4
theorem sg_cells {H0 H : Hp} {M L : List Addr} {σ : L2.St} {Γ : Ctx} {tl : TA} {X : XK} {tz : TS} {D : Ends} {i : Nat} {is : List Int} (E : Env K H0 M L σ H Γ) (h : AG K tl Γ [.list (is.map PyData.int), .int (2 : Nat)]) (hn : is.length ≤ 63) (k : ∀ (js : List Int) σ' H', js.length ≤ 2 → Ex H H' → Env K H0 M L σ' H' (Γ.set i (.dat (.list (js.map PyData.int)))) → tz D σ' H') (hi : i < Γ.length := by exact Nat.le_of_ble_eq_true rfl) :
    tSeq (tAsg (tCall (spCells K) [] X tl) (gName i)) tz D σ H := by
  unfold tSeq tAsg tCall
  refine h H0 M L σ H E _ fun vs H1 e1 hv => ?_
  refine ⟨L, is, (E.mono e1).live, by rw [List.append_nil]; exact hv, hn, fun v H2 js hjs e2 h2 => ?_⟩
  exact k js _ H2 hjs (e1.trans e2) (((E.mono e1).mono e2).set hi h2)
theorem eg_rb {Γ : Ctx} {tl : TA} {X Y : XK} {js : List Int} {k : Nat} (h : AG K tl Γ [.list (js.map PyData.int), .int (k : Nat)]) (hk : k < js.length) (hk2 : k ≤ 1000) : EG K (tCall spRight [] X (tCons (tCall (spBox K) [] Y tl) tNil)) Γ (.bool true) := fun H0 M L σ H E Q q => by
  refine h H0 M L σ H E _ fun vs H1 e1 hv => ?_
  refine ⟨L, vs, js, k, (E.mono e1).live, by rw [List.append_nil], hv, hk, hk2, fun p H2 np e2 ht => ?_⟩
  refine ⟨p, rfl, ht, fun H3 e3 => q _ H3 (e1.trans fun a o h => ?_) (.bl true)⟩
  have ha := e2 _ _ h
  have hne : a ∉ [p] := fun m => by
    rw [List.mem_singleton.mp m, np] at h
    cases h
  exact (er_some (e3 a o (by rw [er_out hne]; exact ha))).2
theorem scLaw : FnScope ["_law_script", "_law_cells_so", "_law_k"] ["_law_script"] (defScope sLaw) := ⟨rfl, rfl, rfl, by decide +kernel, rfl, by decide +kernel, by decide +kernel⟩
/-- the law's own promise -/
def spLaw (K : PySem.W.Frag) : Sp := fun vs H Q _ => ∃ (L : List Addr) (is : List Int), (∀ a ∈ L, ∃ o, H a = some o) ∧ DpAll K (er L H) vs [.list (is.map PyData.int)] ∧ is.length ≤ 63 ∧ ∀ H', Ex H H' → Q (.bl true) H'
theorem ok_law (T : Top K mg) : Ok P w K mg base 10 "law" ["_law_script"] (spLaw K) := by
  have O__law_by_hand_right : Ok P w K mg base 9 _ _ _ := ok__law_by_hand_right T
  have O__law_cells : Ok P w K mg base 9 _ _ _ := (ok__law_cells T).mono (by decide)
  have O__law_right : Ok P w K mg base 9 _ _ _ := ok__law_right T
  have O__law_box : Ok P w K mg base 9 _ _ _ := (ok__law_box T).mono (by decide)
  refine ok_def T 45 45 scLaw (fun vs H Q E h => by obtain ⟨L, is, _, hd, _⟩ := h; rw [dps_len hd]; rfl) (fun _ _ _ _ _ _ us hl => match us, hl with | [_], _ => rfl) (fun cdv A outer s H vs Q E hr h => ?_)
  obtain ⟨L, is, hl, hd, hn, q⟩ := h
  refine ⟨_, pss_cons (ps_if (pt_not (pt_val (pe_cal0 O__law_by_hand_right hr))) (pss_one (ps_ret pe_bl)) pss_nil)
      (pss_cons (ps_set (i := 1) scLaw.nd rfl (.inr rfl) (pe_cal O__law_cells hr (pa_cons (pv 0) (pa_cons pe_int pa_nil))))
      (pss_one (ps_ret (pe_callB (r := rAll K) (cr_all rfl) (by rfl) T.allN (by decide +kernel) (pa_cons (pe_lc (own := [("_law_k", 2)]) (g := (gName 2)) rfl scLaw.nd (pi_range1 (by rfl) T.rangeN (pa_cons (pe_callB (r := rLenX K) call_lenX (by rfl) T.lenN (by decide +kernel) (pa_cons (pv 1) pa_nil)) pa_nil)) (blkOk_by (N := ["_law_script", "_law_cells_so", "_law_k"]) (sc := defScope sLaw) (by decide +kernel)) (fun _ _ _ _ _ => (pg_name (i := 2) scLaw.nd rfl (Or.inl rfl))) (fun _ _ _ _ _ => pts_nil) (fun _ _ _ _ _ => (pe_cal O__law_right hr (pa_cons (pe_cal O__law_box hr (pa_cons (pv 1) (pa_cons (pv 2) pa_nil))) pa_nil)))) pa_nil))))), ?_⟩
  have E1 := env_start (N := ["_law_script", "_law_cells_so", "_law_k"]) hl hd
  refine sg_if (b := false) E1 (tg_is (tg_not (tg_B (eg_call (P := PYes) ag_nil ⟨rfl, rfl⟩))) rfl) (fun h => by cases h) fun _ H2 e2 E2 => ?_
  refine sg_cells (is := is) E2 (ag_cons (eg_var rfl) (ag_cons (eg_is eg_int rfl) ag_nil)) hn fun js σ4 H4 hjs e4 E4 => ?_
  refine sl_ret E4 (eg_all (bs := (List.range js.length).map fun _ => true) (eg_is (eg_lc (js := [2]) (α := Nat) (enc := fun i => .int (i : Nat)) (xs := List.range js.length) (src_rng1 (ag_cons (eg_is (eg_lenXL (eg_var rfl)) (by rw [List.length_map])) ag_nil) (by omega)) (fun k => [.dat (.list (is.map PyData.int)), .dat (.list (js.map PyData.int)), .dat (.int (k : Nat))]) (fun k _ => bnd_name) (fun _ => .bool true) (by rw [List.length_range]; omega) fun k hk => eg_rb (ag_cons (eg_var rfl) (ag_cons (eg_var rfl) ag_nil)) (List.mem_range.mp hk) (by have := List.mem_range.mp hk; omega)) (by rw [List.map_map]; rfl))) fun v H5 e5 E5 hv => ?_
  have all : ((List.range js.length).map fun _ => true).all id = true := by
    rw [List.all_map, List.all_eq_true]
    intro _ _
    rfl
  rw [all] at hv
  cases hv
  exact q H5 (E5.base.trans (er_ex _ _))
end
end HR

set_option Elab.async false
set_option linter.all false
set_option maxRecDepth 100000
set_option maxHeartbeats 4000000
namespace HR
open PySem PySem.Spec PyProof.Rows L2 Evl
theorem facts {P : Program} {w : World} {K : PySem.W.Frag} {mg : Str → Option Value} {f : Addr} (T : Top K mg) (hfa : mg ("law" : Str) = some (.ref f)) :
    ∃ fd : FuncData, (∀ (s : Shared) (v : Value), BindsTo s fd ⟨[v], []⟩ [("_law_script", v)]) ∧ ∀ base : Heap, K.In base → base.Ns mainGlobals mg → FnOk P w K mg base CX0 10 f fd ["_law_script"] (spLaw K) := by
  obtain ⟨fd, F⟩ := T.fn 45 (x := "law") (st := sLaw) rfl
  have b := FunD.bindsA (ps := ["_law_script"]) F fun _ _ _ _ _ _ us hl => match us, hl with | [_], _ => rfl
  refine ⟨fd, fun s v => b s [v] rfl, fun base _ _ => ?_⟩
  obtain ⟨f0, fd0, O1, O2, O3, _, oc0, od0, osl0, lk0⟩ := (ok_law (P := P) (w := w) (base := base) T).ex
  have e := hfa.symm.trans O2
  cases e
  have e3 := (T.g 45 (x := "law") rfl).symm.trans hfa
  cases e3
  obtain ⟨oc, od, dV, kV, doc, pm, an, cdv, ct, osl, e4, lk, _⟩ := F.ex
  have e2 := lk0.symm.trans lk
  cases e2
  subst e4
  exact O1
end HR
open PySem PySem.W PySem.Calls PyProof.Rows
theorem PySem.Challenge.cw_halfring_k38_whole_windows_amid_lots_holds : PySem.Challenge.rw_halfring_k38_whole_windows_amid_lots.Holds := by
  w_on; o_law
  refine HandSHeadRun.head_any (r := HR.R) (q := view HR.R.prog [54]) (H := HR.hk) (ob := HR.ob) (M := 8000) (loose := HR.loose) (d := HandSHeadRun.topDef HR.R.prog 54) (kwd := []) HR.ob_eq
    (by kernel_rfl) (fun s => by kernel_rfl) HR.run (by kernel_rfl) (by kernel_rfl) (by kernel_rfl) (by rfl) (by first | assumption | decide +kernel) (by decide +kernel) ⟨rfl, rfl, rfl, rfl, rfl, by decide +kernel⟩ ?hw ?hc
  case hw => w_witness2
  case hc =>
    refine L2.walk_ofE (l := PySem.Challenge.rw_halfring_k38_whole_windows_amid_lots) (n := 63) (k := 10) (x := "_law_script") (CX := L2.CX0) rfl (by decide) (by kernel_rfl) ⟨rfl, by decide, by decide⟩ ?F (fun _ _ _ _ z => z)
    intro w mg fa h Y G hmg0
    obtain ⟨K, KX, c⟩ := Y
    have hmg : mg ("law" : PySem.Str) = some (.ref fa) := by
      have e : (HandSHeadRun.topDef HR.R.prog 54).name = ("law" : PySem.Str) := by kernel_rfl
      rw [← e]
      exact hmg0
    obtain ⟨fd, hb, hF⟩ := HR.facts (P := (PySem.Challenge.rw_halfring_k38_whole_windows_amid_lots).prog) (w := w) (HR.Top.of KX G c) hmg
    refine ⟨K, fd, HR.spLaw K, KX, hb, fun H a ns hl _ hS => ⟨[], ns, fun b hb => (by cases hb), .cons (.lst (by rw [HR.er_nil]; exact hS) (HR.dps_ints ns)) .nil, hl, fun _ _ => rfl⟩, hF⟩
