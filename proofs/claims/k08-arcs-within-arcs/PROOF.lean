import PyProof.Rows.All
import HandS.ForMost
import HandS.Deep
import KE.SortData
import KE.DataEq
import KE.DataMinMax
import PyProof.ReprReads
import HandS.TupAny
import HandS.Zip
import HandS.IsInst
import HandS.Conv
import HandS.Style
import PyProof.ReprBulk
import PySem.Challenge.RW_keptarcs_k08_arcs_within_arcs
set_option Elab.async false
set_option autoImplicit false
set_option linter.all false
set_option maxRecDepth 100000
set_option maxHeartbeats 4000000
/-! DL: a layer of plain data over HandS. A def's body is read as a function of an environment of plain data. -/
namespace DL
open PySem PySem.Spec PyProof.Rows L2
mutual
/-- the value v stands for the data d, as the frozen heap G tells -/
inductive Dr (K : PySem.W.Frag) (G : Hp) : V → PyData → Prop
  | non : Dr K G .non .none
  | bl (b : Bool) : Dr K G (.bl b) (.bool b)
  | int (i : Int) : Dr K G (.int i) (.int i)
  | str (x : Str) : Dr K G (.str x) (.str x)
  | lst {a : Addr} {vs : List V} {ds : List PyData} : Rd G a (.lst vs) → vs.length ≤ sizeLine → DrAll K G vs ds → Dr K G (.ref a) (.list ds)
  | tup {a : Addr} {vs : List V} {ds : List PyData} : SqT K G a vs → vs.length ≤ sizeLine → DrAll K G vs ds → Dr K G (.ref a) (.tuple ds)
inductive DrAll (K : PySem.W.Frag) (G : Hp) : List V → List PyData → Prop
  | nil : DrAll K G [] []
  | cons {v : V} {vs : List V} {d : PyData} {ds : List PyData} : Dr K G v d → DrAll K G vs ds → DrAll K G (v :: vs) (d :: ds)
end
variable {K : PySem.W.Frag} {G G' : Hp}
theorem same_sqT {a : Addr} {xs : List V} (e : Same G G') (h : SqT K G a xs) : SqT K G' a xs := by
  rcases h with (h | ⟨o, h⟩) | h
  · exact .inl (.inl (e _ _ h))
  · exact .inl (.inr ⟨o, e _ _ h⟩)
  · exact .inr h
mutual
theorem Dr.mono (e : Same G G') : ∀ {v : V} {d : PyData}, Dr K G v d → Dr K G' v d
  | _, _, .non => .non
  | _, _, .bl b => .bl b
  | _, _, .int i => .int i
  | _, _, .str x => .str x
  | _, _, .lst h l a => .lst (h.imp (e _ _) fun ⟨o, q⟩ => ⟨o, e _ _ q⟩) l (DrAll.mono e a)
  | _, _, .tup h l a => .tup (same_sqT e h) l (DrAll.mono e a)
theorem DrAll.mono (e : Same G G') : ∀ {vs : List V} {ds : List PyData}, DrAll K G vs ds → DrAll K G' vs ds
  | _, _, .nil => .nil
  | _, _, .cons h t => .cons (Dr.mono e h) (DrAll.mono e t)
end
mutual
theorem Dr.dp : ∀ {v : V} {d : PyData}, Dr K G v d → Dp K G v d
  | _, _, .non => .non
  | _, _, .bl b => .bl b
  | _, _, .int i => .int i
  | _, _, .str x => .str x
  | _, _, .lst h _ a => .lst (.inl h) (DrAll.dp a)
  | _, _, .tup h _ a => .tup h (DrAll.dp a)
theorem DrAll.dp : ∀ {vs : List V} {ds : List PyData}, DrAll K G vs ds → DpAll K G vs ds
  | _, _, .nil => .nil
  | _, _, .cons h t => .cons (Dr.dp h) (DrAll.dp t)
end
theorem DrAll.length : ∀ {vs : List V} {ds : List PyData}, DrAll K G vs ds → vs.length = ds.length
  | _, _, .nil => rfl
  | _, _, .cons _ t => by simp only [List.length_cons, DrAll.length t]
theorem DrAll.append : ∀ {vs ws : List V} {ds es : List PyData}, DrAll K G vs ds → DrAll K G ws es → DrAll K G (vs ++ ws) (ds ++ es)
  | _, _, _, _, .nil, h => h
  | _, _, _, _, .cons h t, u => .cons h (DrAll.append t u)
theorem DrAll.get : ∀ {vs : List V} {ds : List PyData} {i : Nat} {d : PyData}, DrAll K G vs ds → ds[i]? = some d → ∃ v, vs[i]? = some v ∧ Dr K G v d
  | _, _, _, _, .nil, e => by simp at e
  | _, _, 0, _, .cons h _, e => by
    simp only [List.getElem?_cons_zero, Option.some.injEq] at e
    subst e
    exact ⟨_, rfl, h⟩
  | _, _, i + 1, d, .cons _ t, e => by
    obtain ⟨v, h1, h2⟩ := DrAll.get (i := i) (d := d) t (by simpa using e)
    exact ⟨v, by simpa using h1, h2⟩
theorem DrAll.getV : ∀ {vs : List V} {ds : List PyData} {i : Nat} {v : V}, DrAll K G vs ds → vs[i]? = some v → ∃ d, ds[i]? = some d ∧ Dr K G v d
  | _, _, _, _, .nil, e => by simp at e
  | _, _, 0, _, .cons h _, e => by
    simp only [List.getElem?_cons_zero, Option.some.injEq] at e
    subst e
    exact ⟨_, rfl, h⟩
  | _, _, i + 1, v, .cons _ t, e => by
    obtain ⟨d, h1, h2⟩ := DrAll.getV (i := i) (v := v) t (by simpa using e)
    exact ⟨d, by simpa using h1, h2⟩
theorem DrAll.drop : ∀ {vs : List V} {ds : List PyData} (n : Nat), DrAll K G vs ds → DrAll K G (vs.drop n) (ds.drop n)
  | _, _, 0, h => h
  | _, _, _ + 1, .nil => .nil
  | _, _, n + 1, .cons _ t => DrAll.drop n t
theorem DrAll.take : ∀ {vs : List V} {ds : List PyData} (n : Nat), DrAll K G vs ds → DrAll K G (vs.take n) (ds.take n)
  | _, _, 0, _ => .nil
  | _, _, _ + 1, .nil => .nil
  | _, _, n + 1, .cons h t => .cons h (DrAll.take n t)
theorem DrAll.reverse : ∀ {vs : List V} {ds : List PyData}, DrAll K G vs ds → DrAll K G vs.reverse ds.reverse
  | _, _, .nil => .nil
  | _, _, .cons h t => by
    simp only [List.reverse_cons]
    exact (DrAll.reverse t).append (.cons h .nil)
theorem DrAll.ints : ∀ (xs : List Int), DrAll K G (xs.map V.int) (xs.map PyData.int)
  | [] => .nil
  | x :: xs => .cons (.int x) (DrAll.ints xs)
/-- values of the environment -/
inductive T where
  | d (x : PyData)
  | deck
inductive Sl where
  | val (t : T)
  | lst (xs : List PyData)
/-- the deck's state -/
structure Dk where
  cells : List Int
  mixed : Int
  draws : Int
  ok : cells.length ≤ 1000
structure M where
  ρ : List (Option Sl)
  dk : Dk
/-- what is fixed through a body -/
structure SC where
  K : PySem.W.Frag
  da : Addr
  ca : Addr
  Gi : Hp
  Hi : Hp
def TR (S : SC) (G : Hp) (v : V) : T → Prop
  | .d x => Dr S.K G v x
  | .deck => v = .ref S.da
inductive TRs (S : SC) (G : Hp) : List V → List T → Prop
  | nil : TRs S G [] []
  | cons {v : V} {vs : List V} {t : T} {ts : List T} : TR S G v t → TRs S G vs ts → TRs S G (v :: vs) (t :: ts)
theorem TR.mono {S : SC} {G G' : Hp} (e : Same G G') {v : V} : ∀ {t : T}, TR S G v t → TR S G' v t
  | .d _, h => Dr.mono e h
  | .deck, h => h
theorem TRs.mono {S : SC} {G G' : Hp} (e : Same G G') : ∀ {vs : List V} {ts : List T}, TRs S G vs ts → TRs S G' vs ts
  | _, _, .nil => .nil
  | _, _, .cons h t => .cons (h.mono e) (TRs.mono e t)
theorem TRs.length {S : SC} {G : Hp} : ∀ {vs : List V} {ts : List T}, TRs S G vs ts → vs.length = ts.length
  | _, _, .nil => rfl
  | _, _, .cons _ t => by simp only [List.length_cons, TRs.length t]
def SlR (S : SC) (G H : Hp) (v : V) : Sl → Prop
  | .val t => TR S G v t
  | .lst xs => ∃ a vs, v = .ref a ∧ H a = some (.lst vs) ∧ DrAll S.K G vs xs ∧ G a = none ∧ S.Hi a = none ∧ vs.length ≤ sizeLine
/-- the deck's two objects -/
def DeckR (S : SC) (H : Hp) (dk : Dk) : Prop :=
  H S.da = some (.dK [(.inr "cells", .ref S.ca), (.inr "mixed", .int dk.mixed), (.inr "draws", .int dk.draws)]) ∧ H S.ca = some (.lst (dk.cells.map V.int)) ∧ dk.cells.length ≤ 16777216
/-- what holds of the heaps in a body -/
structure Ext (S : SC) (G H : Hp) (dk : Dk) : Prop where
  same : Same G H
  gi : Same S.Gi G
  gn : ∀ a o, G a = some o → S.Gi a = some o ∨ S.Hi a = none
  hi : ∀ a o, S.Hi a = some o → a ≠ S.da → a ≠ S.ca → H a = some o
  dk : DeckR S H dk
  dn : S.Hi S.da ≠ none ∧ S.Hi S.ca ≠ none
  gd : G S.da = none ∧ G S.ca = none
structure Rep (S : SC) (G : Hp) (σ : L2.St) (H : Hp) (st : M) : Prop extends Ext S G H st.dk where
  sl : ∀ (i : Nat) (s : Sl), st.ρ[i]? = some (some s) → ∃ v : V, σ[i]? = some (some v) ∧ SlR S G H v s
  sep : ∀ (i j : Nat) (a : Addr) (xs ys : List PyData), i ≠ j → σ[i]? = some (some (.ref a)) → σ[j]? = some (some (.ref a)) → st.ρ[i]? = some (some (.lst xs)) → st.ρ[j]? = some (some (.lst ys)) → False
  len : st.ρ.length = σ.length
/-! ### new objects -/
theorem Ext.hnew {S : SC} {G H : Hp} {dk : Dk} (R : Ext S G H dk) {p : Addr} (hp : H p = none) : S.Hi p = none := by
  cases e : S.Hi p with
  | none => rfl
  | some o =>
    by_cases h1 : p = S.da
    · rw [h1, R.dk.1] at hp; cases hp
    · by_cases h2 : p = S.ca
      · rw [h2, R.dk.2.1] at hp; cases hp
      · rw [R.hi p o e h1 h2] at hp; cases hp
theorem same_new {H : Hp} {p : Addr} {o : HO} (h : H p = none) : Same H (upd H p o) := fun b x e => by
  rw [upd_ne (ne_of_none e h)]
  exact e
/-- a new object, frozen at once -/
theorem Ext.new {S : SC} {G H : Hp} {dk : Dk} (R : Ext S G H dk) {p : Addr} (hp : H p = none) (o : HO) : Ext S (upd G p o) (upd H p o) dk := by
  have gp : G p = none := R.same.free hp
  have hd : p ≠ S.da := fun z => by rw [z, R.dk.1] at hp; cases hp
  have hc : p ≠ S.ca := fun z => by rw [z, R.dk.2.1] at hp; cases hp
  refine ⟨fun a x e => ?_, fun a x e => ?_, fun a x e => ?_, fun a x e h1 h2 => ?_, ⟨?_, ?_, R.dk.2.2⟩, R.dn, ⟨?_, ?_⟩⟩
  · by_cases h : a = p
    · rw [h, upd_same] at e ⊢; exact e
    · rw [upd_ne h] at e ⊢; exact R.same a x e
  · rw [upd_ne (fun z => by rw [z] at e; rw [R.gi p x e] at gp; cases gp)]; exact R.gi a x e
  · by_cases h : a = p
    · rw [h]; exact .inr (R.hnew hp)
    · rw [upd_ne h] at e; exact R.gn a x e
  · rw [upd_ne (fun z => by rw [z, R.hnew hp] at e; cases e)]; exact R.hi a x e h1 h2
  · rw [upd_ne hd.symm]; exact R.dk.1
  · rw [upd_ne hc.symm]; exact R.dk.2.1
  · rw [upd_ne hd.symm]; exact R.gd.1
  · rw [upd_ne hc.symm]; exact R.gd.2
/-- a new object, not frozen -/
theorem Ext.own {S : SC} {G H : Hp} {dk : Dk} (R : Ext S G H dk) {p : Addr} (hg : G p = none) (hi : S.Hi p = none) (o : HO) : Ext S G (upd H p o) dk := by
  have hd : p ≠ S.da := fun z => R.dn.1 (z ▸ hi)
  have hc : p ≠ S.ca := fun z => R.dn.2 (z ▸ hi)
  refine ⟨fun a x e => ?_, R.gi, R.gn, fun a x e h1 h2 => ?_, ⟨?_, ?_, R.dk.2.2⟩, R.dn, R.gd⟩
  · rw [upd_ne (fun z => by rw [z, hg] at e; cases e)]; exact R.same a x e
  · rw [upd_ne (fun z => by rw [z, hi] at e; cases e)]; exact R.hi a x e h1 h2
  · rw [upd_ne hd.symm]; exact R.dk.1
  · rw [upd_ne hc.symm]; exact R.dk.2.1
theorem SlR.new {S : SC} {G H : Hp} {p : Addr} (o : HO) (hp : H p = none) {v : V} : ∀ {s : Sl}, Same G H → SlR S G H v s → SlR S (upd G p o) (upd H p o) v s
  | .val _, e, h => TR.mono (same_new (e.free hp)) h
  | .lst _, e, h => by
    obtain ⟨a, vs, rfl, ha, hd, hg, hi⟩ := h
    have n := ne_of_none ha hp
    exact ⟨a, vs, rfl, by rw [upd_ne n]; exact ha, hd.mono (same_new (e.free hp)), by rw [upd_ne n]; exact hg, hi⟩
theorem SlR.own {S : SC} {G H : Hp} {p : Addr} (o : HO) (hp : H p = none) {v : V} : ∀ {s : Sl}, SlR S G H v s → SlR S G (upd H p o) v s
  | .val _, h => h
  | .lst _, h => by
    obtain ⟨a, vs, rfl, ha, hd, hg, hi⟩ := h
    have n := ne_of_none ha hp
    exact ⟨a, vs, rfl, by rw [upd_ne n]; exact ha, hd, hg, hi⟩
section
variable {S : SC} {H : Hp} {σ : L2.St} {st : M}
theorem Rep.new (R : Rep S G σ H st) {p : Addr} (hp : H p = none) (o : HO) : Rep S (upd G p o) σ (upd H p o) st :=
  ⟨R.toExt.new hp o, fun i s e => let ⟨v, h1, h2⟩ := R.sl i s e; ⟨v, h1, h2.new o hp R.same⟩, R.sep, R.len⟩
theorem Rep.newOwn (R : Rep S G σ H st) {p : Addr} (hp : H p = none) (o : HO) : Rep S G σ (upd H p o) st :=
  ⟨R.toExt.own (R.same.free hp) (R.hnew hp) o, fun i s e => let ⟨v, h1, h2⟩ := R.sl i s e; ⟨v, h1, h2.own o hp⟩, R.sep, R.len⟩
theorem Rep.newSame (R : Rep S G σ H st) {p : Addr} (hp : H p = none) (o : HO) : Same G (upd G p o) := same_new (R.same.free hp)
/-- an own list of a slot is written -/
theorem Rep.write (R : Rep S G σ H st) {i : Nat} {a : Addr} {ws : List V} {xs ys : List PyData} (hv : σ[i]? = some (some (.ref a))) (hr : st.ρ[i]? = some (some (.lst xs))) (hw : DrAll S.K G ws ys) (hz : ws.length ≤ sizeLine) :
    Rep S G σ (upd H a (.lst ws)) { st with ρ := st.ρ.set i (some (.lst ys)) } := by
  obtain ⟨v, h1, h2⟩ := R.sl i _ hr
  rw [hv] at h1
  cases h1
  obtain ⟨b, ws', eb, hb, hd, hg, hi, _⟩ := h2
  cases eb
  have hlt : i < st.ρ.length := (List.getElem?_eq_some_iff.mp hr).1
  refine ⟨R.toExt.own hg hi _, fun j s e => ?_, fun j k c x1 x2 hjk q1 q2 e1 e2 => ?_, by simpa using R.len⟩
  · by_cases hj : i = j
    · subst hj
      simp only [List.getElem?_set_self hlt, Option.some.injEq] at e
      subst e
      exact ⟨_, hv, a, ws, rfl, upd_same, hw, hg, hi, hz⟩
    · simp only [List.getElem?_set_ne hj] at e
      obtain ⟨v, h1, h2⟩ := R.sl j s e
      refine ⟨v, h1, ?_⟩
      cases s with
      | val t => exact h2
      | lst zs =>
        obtain ⟨b, ws', eb, hb', hd', hg', hi'⟩ := h2
        subst eb
        refine ⟨b, ws', rfl, ?_, hd', hg', hi'⟩
        rw [upd_ne (fun z => ?_)]
        · exact hb'
        · subst z
          exact R.sep i j b _ _ hj hv h1 hr e
  · have own : ∀ (m : Nat) (x : List PyData), ({ st with ρ := st.ρ.set i (some (.lst ys)) } : M).ρ[m]? = some (some (.lst x)) → ∃ y : List PyData, st.ρ[m]? = some (some (Sl.lst y)) := fun m x e => by
      by_cases hm : i = m
      · subst hm; exact ⟨xs, hr⟩
      · simp only [List.getElem?_set_ne hm] at e; exact ⟨x, e⟩
    obtain ⟨y1, f1⟩ := own j x1 e1
    obtain ⟨y2, f2⟩ := own k x2 e2
    exact R.sep j k c _ _ hjk q1 q2 f1 f2
/-- a slot is stored -/
theorem Rep.set (R : Rep S G σ H st) {i : Nat} {v : V} {t : T} (hv : TR S G v t) : Rep S G (σ.set i (some v)) H { st with ρ := st.ρ.set i (some (.val t)) } := by
  refine ⟨R.toExt, fun j s e => ?_, fun j k c x1 x2 hjk q1 q2 e1 e2 => ?_, by simpa using R.len⟩
  · by_cases hj : i = j
    · subst hj
      by_cases hlt : i < st.ρ.length
      · simp only [List.getElem?_set_self hlt, Option.some.injEq] at e
        subst e
        exact ⟨v, by rw [List.getElem?_set_self (by rw [← R.len]; exact hlt)], hv⟩
      · rw [List.getElem?_eq_none (by simp; omega)] at e; cases e
    · simp only [List.getElem?_set_ne hj] at e
      obtain ⟨w, h1, h2⟩ := R.sl j s e
      exact ⟨w, by rw [List.getElem?_set_ne hj]; exact h1, h2⟩
  · have ne : ∀ (m : Nat) (x : List PyData), ({ st with ρ := st.ρ.set i (some (.val t)) } : M).ρ[m]? = some (some (.lst x)) → i ≠ m ∧ st.ρ[m]? = some (some (.lst x)) := fun m x e => by
      by_cases hm : i = m
      · subst hm
        have hlt : i < (st.ρ.set i (some (Sl.val t))).length := (List.getElem?_eq_some_iff.mp e).1
        simp only [List.getElem?_set_self (by simpa using hlt), Option.some.injEq] at e
        cases e
      · simp only [List.getElem?_set_ne hm] at e; exact ⟨hm, e⟩
    obtain ⟨n1, f1⟩ := ne j x1 e1
    obtain ⟨n2, f2⟩ := ne k x2 e2
    rw [List.getElem?_set_ne n1] at q1
    rw [List.getElem?_set_ne n2] at q2
    exact R.sep j k c _ _ hjk q1 q2 f1 f2
/-- a slot is stored with a list that nobody else holds -/
theorem Rep.setOwn (R : Rep S G σ H st) {i : Nat} {a : Addr} {vs : List V} {xs : List PyData} (ha : H a = some (.lst vs)) (hz : vs.length ≤ sizeLine) (hd : DrAll S.K G vs xs) (hg : G a = none) (hi : S.Hi a = none)
    (hn : ∀ (j : Nat) (ys : List PyData), st.ρ[j]? = some (some (.lst ys)) → σ[j]? ≠ some (some (.ref a))) : Rep S G (σ.set i (some (.ref a))) H { st with ρ := st.ρ.set i (some (.lst xs)) } := by
  refine ⟨R.toExt, fun j s e => ?_, fun j k c x1 x2 hjk q1 q2 e1 e2 => ?_, by simpa using R.len⟩
  · by_cases hj : i = j
    · subst hj
      by_cases hlt : i < st.ρ.length
      · simp only [List.getElem?_set_self hlt, Option.some.injEq] at e
        subst e
        exact ⟨.ref a, by rw [List.getElem?_set_self (by rw [← R.len]; exact hlt)], a, vs, rfl, ha, hd, hg, hi, hz⟩
      · rw [List.getElem?_eq_none (by simp; omega)] at e; cases e
    · simp only [List.getElem?_set_ne hj] at e
      obtain ⟨w, h1, h2⟩ := R.sl j s e
      exact ⟨w, by rw [List.getElem?_set_ne hj]; exact h1, h2⟩
  · by_cases n1 : i = j
    · subst n1
      have n2 : i ≠ k := hjk
      simp only [List.getElem?_set_ne n2] at e2
      rw [List.getElem?_set_ne n2] at q2
      have hlt : i < σ.length := by
        have := (List.getElem?_eq_some_iff.mp q1).1
        simpa using this
      rw [List.getElem?_set_self hlt] at q1
      cases q1
      exact hn k _ e2 q2
    · simp only [List.getElem?_set_ne n1] at e1
      rw [List.getElem?_set_ne n1] at q1
      by_cases n2 : i = k
      · subst n2
        have hlt : i < σ.length := by
          have := (List.getElem?_eq_some_iff.mp q2).1
          simpa using this
        rw [List.getElem?_set_self hlt] at q2
        cases q2
        exact hn j _ e1 q1
      · simp only [List.getElem?_set_ne n2] at e2
        rw [List.getElem?_set_ne n2] at q2
        exact R.sep j k c _ _ hjk q1 q2 e1 e2
/-- slots are forgotten -/
theorem Rep.weak (R : Rep S G σ H st) {σ' : L2.St} {ρ' : List (Option Sl)} (hl : ρ'.length = σ'.length) (h : ∀ (i : Nat) (s : Sl), ρ'[i]? = some (some s) → st.ρ[i]? = some (some s) ∧ σ'[i]? = σ[i]?) : Rep S G σ' H { st with ρ := ρ' } :=
  ⟨R.toExt, fun i s e => let ⟨e1, e2⟩ := h i s e; let ⟨v, h1, h2⟩ := R.sl i s e1; ⟨v, e2.trans h1, h2⟩,
    fun i j a xs ys hij q1 q2 e1 e2 => R.sep i j a xs ys hij ((h i _ e1).2 ▸ q1) ((h j _ e2).2 ▸ q2) (h i _ e1).1 (h j _ e2).1, hl⟩
end
end DL
set_option maxRecDepth 100000
set_option maxHeartbeats 4000000
/-! DL: a def's promise where nothing that guards repr is under way -/
namespace DL
open PySem PySem.Spec PyProof.Rows L2
/-- a def's promise where no repr is under way around the call -/
structure FnG (P : Program) (w : World) (K : PySem.W.Frag) (mg : Str → Option Value) (base : Heap) (CX : CXT) (k : Nat) (f : Addr) (fd : FuncData) (ps : List Str) (sp : Sp) : Prop where
  len : ∀ vs H Q E, sp vs H Q E → vs.length = ps.length
  run : ∀ (A : Around) (outer : List Env) (s : Shared) (H : Hp) (args : Args) (us : List Value) (vs : List V) (Q : VK) (E : XK), A.guards = some [] → Room k A →
    Env0 P w K mg base A outer s H → BindsTo s fd args (ps.zip us) → Vals vs us → sp vs H Q E → codeAny (model P w) A (.call (.ref f) args) (CR CX outer P w H s Q E) s
section
variable {P : Program} {w : World} {K : PySem.W.Frag} {mg : Str → Option Value} {base : Heap} {CX : CXT}
theorem FnG.mono {j k : Nat} {f : Addr} {fd : FuncData} {ps : List Str} {sp : Sp} (F : FnG P w K mg base CX j f fd ps sp) (h : j ≤ k) : FnG P w K mg base CX k f fd ps sp :=
  ⟨F.len, fun A outer s H args us vs Q E hg hr => F.run A outer s H args us vs Q E hg (hr.mono h)⟩
theorem FnG.imp {k : Nat} {f : Addr} {fd : FuncData} {ps : List Str} {sp sp' : Sp} (F : FnG P w K mg base CX k f fd ps sp) (h : ∀ vs H Q E, sp' vs H Q E → sp vs H Q E) : FnG P w K mg base CX k f fd ps sp' :=
  ⟨fun vs H Q E q => F.len vs H Q E (h _ _ _ _ q), fun A outer s H args us vs Q E hg hr he hb hv hs => F.run A outer s H args us vs Q E hg hr he hb hv (h _ _ _ _ hs)⟩
theorem FnG.of {k : Nat} {f : Addr} {fd : FuncData} {ps : List Str} {sp : Sp} (F : FnOk P w K mg base CX k f fd ps sp) : FnG P w K mg base CX k f fd ps sp :=
  ⟨F.len, fun A outer s H args us vs Q E _ hr => F.run A outer s H args us vs Q E hr⟩
/-- the rule of a def's body, as L2.fn_of -/
theorem fnG_of {k : Nat} {f : Addr} {name qual : Str} {params : Arguments} {body : List Stmt} {scope : Scope} {dV kV doc pm cdv ct oc : Value} {an od : Option Addr} {osl : Array (Option Value)} {N ps : List Str} {sp : Sp}
    (lk : K.lookup f = some ⟨oc, od, .func (PySem.W.fnOf name qual params body scope dV kV doc pm an cdv ct), osl⟩) (hcd : PySem.W.codeIn K cdv qual = true) (S : FnScope N ps scope) (len : ∀ vs H Q E, sp vs H Q E → vs.length = ps.length)
    (hbody : ∀ (A : Around) (outer : List Env) (s : Shared) (H : Hp) (vs : List V) (Q : VK) (E : XK), A.guards = some [] → Room k (A.deeper (envOfC qual scope s.heap.objs.size f cdv)) → sp vs H Q E →
      ∃ t, PSs (cxOf CX P w K mg base N qual scope f cdv A outer s H E) body t ∧ t { nx := fun _ H' => Q .non H', rt := Q } (start N vs) H) :
    FnG P w K mg base CX (k + 1) f (PySem.W.fnOf name qual params body scope dV kV doc pm an cdv ct) ps sp := by
  constructor
  · exact len
  intro A outer s H args us vs Q E hgd hr e0 hb r hsp
  have hl := len _ _ _ _ hsp
  have below : ∀ (b : Addr) (o : Obj), base.get? b = some o → s.heap.get? b = some o := fun b o e => (e0.bs b o e).1
  have kinds : ∀ y ∈ ps.zip us, scope.names.lookup y.1 = some .local ∨ (scope.names.lookup y.1 = some .cell ∧ ((cellsFrom (s.heap.objs.size + 1) scope.names []).lookup y.1).isSome = true) := by
    rintro ⟨n, v⟩ hy
    exact (S.par n (List.of_mem_zip hy).1).imp id fun q => ⟨q, PySem.W.cellsFrom_some _ _ _ (.inl q)⟩
  have KX : K.In s.heap := e0.mod.kin.keeps below
  refine codeAny_call_function hr.depth (KX _ _ lk) rfl S.co S.gen rfl (PySem.W.codeRec_of KX hcd) (hb _ _ _ _ (wpAny_newFunctionEnv_cells S.kind kinds ?_))
  rintro env rfl s1 x
  refine ⟨(e0.mod.nolimit.keeps below).keeps x.toInCall.keep, codeAny_func ?_⟩
  obtain ⟨t, ht, hq⟩ := hbody A outer s H vs Q E hgd (hr.deeper _) hsp
  have I := inv_start (CX := CX) (E := E) S hr.hd e0 hl r x
  refine wpAny_mono (ht.run [] s1 (start N vs) H _ I hq) ?_ fun e s' hs => hs
  rintro fl s' hs
  cases fl with
  | next =>
    obtain ⟨σ', H', J, q⟩ := hs
    exact ⟨V.non, H', J.os, J.bare, J.base, J.hok, rfl, q⟩
  | ret u =>
    obtain ⟨v, σ', H', J, rv, q⟩ := hs
    exact ⟨v, H', J.os, J.bare, J.base, J.hok, rv, q⟩
  | brk => obtain ⟨_, _, _, q⟩ := hs; exact q.elim
  | cont => obtain ⟨_, _, _, q⟩ := hs; exact q.elim
theorem okG {x qual : Str} {st : Stmt} {f : Addr} {fd : FuncData} {N ps : List Str} {k : Nat} {sp : Sp} (F : Fun K x qual st f fd) (S : FnScope N ps (defScope st)) (len : ∀ vs H Q E, sp vs H Q E → vs.length = ps.length)
    (hbody : ∀ (cdv : Value) (A : Around) (outer : List Env) (s : Shared) (H : Hp) (vs : List V) (Q : VK) (E : XK), A.guards = some [] → Room k (A.deeper (envOfC qual (defScope st) s.heap.objs.size f cdv)) → sp vs H Q E →
      ∃ t, PSs (cxOf CX P w K mg base N qual (defScope st) f cdv A outer s H E).nox (defBody st) t ∧ t { nx := fun _ H' => Q .non H', rt := Q } (start N vs) H) : FnG P w K mg base CX (k + 1) f fd ps sp := by
  obtain ⟨oc, od, kV, doc, pm, an, cdv, ct, osl, rfl, lk, hcd⟩ := F.ex
  refine fnG_of lk hcd S len fun A outer s H vs Q E hg hr hsp => ?_
  obtain ⟨t, h, q⟩ := hbody cdv A outer s H vs Q E hg hr hsp
  exact ⟨t, h.nox, q⟩
end
section
variable {X : Cx} {CX : CXT} {k : Nat} {f : Addr} {fd : FuncData} {ps : List Str} {sp : Sp} {E : XK} {x : Str} {p pos : Pos} {e : Expr} {es : List Expr} {t tk : TA}
theorem run_G {pins : List (Addr × Obj)} {σ : L2.St} {H : Hp} {s : Shared} {Q : VK} {us us' : List Value} {kw : List (Str × Value)} {vs : List V} (F : FnG X.prog X.w X.K X.mg X.base CX k f fd ps sp) (hgd : X.A.guards = some []) (hr : Room k X.A)
    (hx : Passes CX X E) (I : Inv X pins σ H s) (hb : BindsTo s fd ⟨us', kw⟩ (ps.zip us)) (r : Vals vs us) (h : sp vs H Q E) : wpAny (model X.prog X.w) X.A (call (.ref f) us' kw) (EP X pins σ Q) X.xe s := by
  refine wpAny_call (codeAny_mono (F.run X.A X.stack s H ⟨us', kw⟩ us vs Q E hgd hr I.env0 hb r h) ?_)
  rintro r s' hq
  cases r with
  | error e => exact hx pins σ H s e s' I hq
  | ok fl =>
    cases fl with
    | ret u => exact I.after hq
    | next => exact hq.elim
    | brk => exact hq.elim
    | cont => exact hq.elim
/-- f(e, ..), every parameter given -/
theorem pe_callG (F : FnG X.prog X.w X.K X.mg X.base CX k f fd ps sp) (hgd : X.A.guards = some []) (hr : Room k X.A) (hg : Gl X x) (hm : X.mg x = some (.ref f)) (hk : PySem.W.keepIn X.K (.ref f) = true) (hb : Binds X.K fd ps []) (hx : Passes CX X E)
    (ha : PA X (e :: es) t) (hdb : (x == ("__debug__" : Str)) = false := by decide) (he : starEach (e :: es) X.env = (false, eval e X.env) :: starEach es X.env := by rfl) (hpl : (backTo pos (starEach es X.env)).any (·.1) = false := by rfl) :
    PE X (.Call (.Name x p) (e :: es) [] pos) (fun σ H Q => t σ H fun vs H1 => sp vs H1 Q E) := by
  refine ⟨fun pins s σ H Q I h => wpAny_Call_Name_kw (ld_glob I hg hm ?_ hdb)⟩
  refine PySem.W.callWith_K (h₀ := X.base) I.ok.mod.kin hk (thn (ha.run pos pins s σ H _ I h) ?_) he hpl
  rintro us s1 ⟨vs, H1, I1, r, q⟩
  have hb1 := hb s1 us I1.kIn (by simpa using r.length.symm.trans (F.len _ _ _ _ q))
  rw [List.append_nil] at hb1
  exact ⟨I1.kIn, run_G F hgd hr hx I1 hb1 r q⟩
/-- how a call with n positional values and the keywords ks binds -/
structure KB (K : PySem.W.Frag) (fd : FuncData) (ps : List Str) (n : Nat) (ks : List Str) (g : {α : Type} → List α → List α → List α) : Prop where
  to : ∀ (s : Shared) (us ws : List Value), K.In s.heap → us.length = n → ws.length = ks.length → BindsTo s fd ⟨us, ks.zip ws⟩ (ps.zip (g us ws))
  rel : ∀ {vs : List V} {us : List Value} {zs : List V} {ws : List Value}, vs.length = n → zs.length = ks.length → Vals vs us → Vals zs ws → Vals (g vs zs) (g us ws)
theorem pe_callKG {kws : List Keyword} {ks : List Str} {n : Nat} {g : {α : Type} → List α → List α → List α} (F : FnG X.prog X.w X.K X.mg X.base CX k f fd ps sp) (hgd : X.A.guards = some []) (hr : Room k X.A) (hg : Gl X x) (hm : X.mg x = some (.ref f))
    (hk : PySem.W.keepIn X.K (.ref f) = true) (hb : KB X.K fd ps n ks g) (hx : Passes CX X E) (ha : PA X (e :: es) t) (hkw : PK X kws tk) (hall : (backToKw pos (keywordEach kws X.env)).all (·.1.isSome) = true := by rfl)
    (hks : (backToKw pos (keywordEach kws X.env)).filterMap (·.1) = ks := by rfl) (hdb : (x == ("__debug__" : Str)) = false := by decide) (he : starEach (e :: es) X.env = (false, eval e X.env) :: starEach es X.env := by rfl)
    (hpl : ((backTo pos (starEach (e :: es) X.env)).any (·.1) || (backToKw pos (keywordEach kws X.env)).any (·.1.isNone)) = false := by rfl) :
    PE X (.Call (.Name x p) (e :: es) kws pos) (fun σ H Q => t σ H fun vs H1 => tk σ H1 fun zs H2 => vs.length = n ∧ zs.length = ks.length ∧ sp (g vs zs) H2 Q E) := by
  refine ⟨fun pins s σ H Q I h => wpAny_Call_Name_kw (ld_glob I hg hm ?_ hdb)⟩
  refine PySem.W.callWith_KW (h₀ := X.base) I.ok.mod.kin hk hall (thn (ha.run pos pins s σ H _ I h) ?_) hpl he
  rintro us s1 ⟨vs, H1, I1, r, q⟩
  refine thn (hkw.run pos pins s1 σ H1 _ I1 q) ?_
  rintro ws s2 ⟨zs, H2, I2, rz, l1, l2, q2⟩
  refine ⟨I2.kIn, ?_⟩
  rw [hks]
  exact run_G F hgd hr hx I2 (hb.to s2 us ws I2.kIn (r.length.symm.trans l1) (rz.length.symm.trans l2)) (hb.rel l1 l2 r rz) q2
theorem pe_callK0G {kws : List Keyword} {ks : List Str} {g : {α : Type} → List α → List α → List α} (F : FnG X.prog X.w X.K X.mg X.base CX k f fd ps sp) (hgd : X.A.guards = some []) (hr : Room k X.A) (hg : Gl X x) (hm : X.mg x = some (.ref f))
    (hk : PySem.W.keepIn X.K (.ref f) = true) (hb : KB X.K fd ps 0 ks g) (hx : Passes CX X E) (hkw : PK X kws tk) (hall : (backToKw pos (keywordEach kws X.env)).all (·.1.isSome) = true := by rfl)
    (hks : (backToKw pos (keywordEach kws X.env)).filterMap (·.1) = ks := by rfl) (hdb : (x == ("__debug__" : Str)) = false := by decide)
    (hpl : ((backTo pos (starEach [] X.env)).any (·.1) || (backToKw pos (keywordEach kws X.env)).any (·.1.isNone)) = false := by rfl) :
    PE X (.Call (.Name x p) [] kws pos) (fun σ H Q => tk σ H fun zs H2 => zs.length = ks.length ∧ sp (g [] zs) H2 Q E) := by
  refine ⟨fun pins s σ H Q I h => wpAny_Call_Name_kw (ld_glob I hg hm ?_ hdb)⟩
  refine PySem.W.callWith_KW0 (h₀ := X.base) I.ok.mod.kin hk hall (thn (hkw.run pos pins s σ H _ I h) ?_) hpl
  rintro ws s2 ⟨zs, H2, I2, rz, l2, q2⟩
  refine ⟨I2.kIn, ?_⟩
  rw [hks]
  exact run_G (us' := [] ++ []) F hgd hr hx I2 (hb.to s2 [] ws I2.kIn rfl (rz.length.symm.trans l2)) (hb.rel (vs := []) rfl l2 .nil rz) q2
end
/-! ### the end of a law -/
section
open PySem.W in
theorem lawG {P : Program} {w : World} {K : PySem.W.Frag} {mg mb : Str → Option Value} {CX : CXT} {k : Nat} {fa a : Addr} {fd : FuncData} {x : Str} {sp : Sp} {s₁ : Shared} {vs : List Value} {ns : List Int} (KX : K.In s₁.heap)
    (hns : s₁.heap.Ns mainGlobals mg) (hb : s₁.heap.Ns builtinsNs mb) (hbb : ∀ x : Str, x ≠ "__name__" → mb x = bootBuiltins x) (hlim : s₁.heap.NoLimit) (hg : s₁.gens = #[])
    (ha : s₁.heap.get? a = some { cls := .type "list", data := .seq vs.toArray }) (hi : IntsAre vs ns) (hl : ns.length ≤ sizeLine) (hr : Room k callerA)
    (F : ∀ base : Heap, K.In base → base.Ns mainGlobals mg → FnG P w K mg base CX k fa fd [x] sp) (hbind : ∀ (s : Shared) (u : Value), BindsTo s fd ⟨[u], []⟩ [(x, u)])
    (hsp : ∀ H : Hp, Only H → SqL K H a (ns.map V.int) → sp [.ref a] H (fun v _ => v = .bl true) fun _ _ _ => False) (hCX : ∀ H e s', CX [] H s₁ (fun _ _ _ => False) e s' → False) :
    codeAny (model P w) callerA (.call (.ref fa) ⟨[.ref a], []⟩) (fun r s' => r = .ok (.ret (.bool true)) ∧ OldK s₁.heap s'.heap ∧ s'.os = s₁.os ∧ AllBare s'.gens) s₁ := by
  have lenV := hi.length
  have core : ∀ H : Hp, Only H → SqL K H a (ns.map V.int) → HOk P w H s₁.heap → (∀ b, H b ≠ none → b = a) → (H a ≠ none → K.lookup a = none) →
      codeAny (model P w) callerA (.call (.ref fa) ⟨[.ref a], []⟩) (fun r s' => r = .ok (.ret (.bool true)) ∧ OldK s₁.heap s'.heap ∧ s'.os = s₁.os ∧ AllBare s'.gens) s₁ := by
    intro H hO hS hok hA hK
    have onlyA : ∀ {b : Addr}, (b = a → False) → H b = none := fun {b} hne => by
      cases q : H b with
      | none => rfl
      | some u => exact (hne (hA b (by rw [q]; simp))).elim
    have noA : ∀ {b : Addr} {o : Obj} {es : Array DictEntry} {ep : Nat}, s₁.heap.get? b = some o → o.data = .dict es ep → H b = none := fun {b o es ep} e d => onlyA fun z => by
      subst z
      rw [ha] at e
      cases e
      have d' : Data.seq vs.toArray _ = Data.dict es ep := d
      cases d'
    have nsK : ∀ {b : Addr} {m : Str → Option Value}, s₁.heap.Ns b m → (hidT s₁.heap H).Ns b m := by
      rintro b m ⟨o, es, ep, e, d, r⟩
      exact ⟨o, es, ep, hidT_get e (noA e d), d, r⟩
    have hKb : K.In (hidT s₁.heap H) := fun b o e => hidT_get (KX b o e) (by
      by_cases z : b = a
      · subst z
        cases q : H b with
        | none => rfl
        | some u =>
          rw [hK (by rw [q]; simp)] at e
          cases e
      · exact onlyA z)
    have hM : Mod K mg (hidT s₁.heap H) := ⟨hKb, nsK hns, ⟨mb, nsK hb, hbb⟩, let ⟨mc, h1, h2⟩ := hlim; ⟨mc, nsK h1, h2⟩⟩
    have e0 : Env0 P w K mg (hidT s₁.heap H) callerA [] s₁ H := by
      refine ⟨rfl, hM, fun b o e => of_hidT e, Nat.le_of_eq (hidT_size _ _), trivial, fun b hb => ?_, hok, .of_eq hg⟩
      cases hb
    refine codeAny_mono ((F _ hKb (nsK hns)).run callerA [] s₁ H ⟨[.ref a], []⟩ [.ref a] [.ref a] _ _ rfl hr e0 (hbind s₁ (.ref a)) (.cons rfl .nil) (hsp H hO hS)) ?_
    rintro r s' h
    cases r with
    | error e => exact (hCX H e s' h).elim
    | ok fl =>
      cases fl with
      | next => exact h.elim
      | brk => exact h.elim
      | cont => exact h.elim
      | ret u =>
        obtain ⟨v, H', os, bare, un, hok', r', q⟩ := h
        obtain rfl : v = .bl true := q
        obtain rfl : u = Value.bool true := r'
        refine ⟨rfl, OldK.of_keep fun b o e => ?_, os, bare⟩
        rcases hO b with z | ⟨ob, xs, z⟩
        · exact un.keep b o e z (by intro z; cases z) (by intro z; cases z)
        · obtain ⟨e1, _⟩ := hok b _ z
          obtain ⟨e2, _⟩ := hok' b _ (un.frzs b ob _ z)
          rw [e] at e1
          cases e1
          exact e2
  cases hk : K.lookup a with
  | some o =>
    have e := KX a o hk
    rw [ha] at e
    cases e
    refine core (fun _ => none) (fun _ => .inl rfl) (.inr ⟨_, vs.toArray, _, hk, rfl, rfl, rfl, by rw [List.size_toArray, lenV]; exact hl, by simpa using vals_ints hi⟩) ?_ (fun b z => absurd rfl z) fun z => absurd rfl z
    intro b u z
    cases (show (none : Option HO) = some u from z)
  | none =>
    let H : Hp := fun b => if b = a then some (.frz { cls := .type "list", data := .seq vs.toArray } (.lst (ns.map V.int))) else none
    have Ha : ∀ b u, H b = some u → b = a := fun b u z => by
      by_cases hb : b = a
      · exact hb
      · have z' : (if b = a then some (HO.frz { cls := .type "list", data := .seq vs.toArray } (.lst (ns.map V.int))) else none) = some u := z
        rw [if_neg hb] at z'
        cases z'
    refine core H (fun b => ?_) (.inl (.inr ⟨{ cls := .type "list", data := .seq vs.toArray }, if_pos rfl⟩)) (fun b u z => ?_) (fun b z => ?_) fun _ => hk
    · by_cases hb : b = a
      · exact .inr ⟨_, _, if_pos hb⟩
      · exact .inl (if_neg hb)
    · have hb := Ha b u z
      subst hb
      have z' : (if b = b then some (HO.frz { cls := .type "list", data := .seq vs.toArray } (.lst (ns.map V.int))) else none) = some u := z
      rw [if_pos rfl] at z'
      cases z'
      refine ⟨ha, by rw [List.length_map]; exact hl, vs, _, vals_ints hi, ha⟩
    · cases q : H b with
      | none => exact absurd q z
      | some u => exact Ha b u q
theorem walkG {l : PySem.W.OpenLaw} {n k : Nat} {q : Program} {loose : List Str} {XP : (Str → Option Value) → Heap → Prop} {YP : World → Heap → Prop} {d : DefRec} {K : Params → PySem.W.Frag} {CX : World → CXT} {sp : World → Sp} {x : Str}
    (hn : l.most = some n) (hn2 : n ≤ sizeLine) (hdf : d.params.defaults = []) (hr : Room k callerA) (hY : ∀ (w : World) (h : Heap), YP w h → (K w.params).In h)
    (F : ∀ (w : World) (mg : Str → Option Value) (fa : Addr) (h : Heap), (K w.params).In h → h.Ns mainGlobals mg → mg d.name = some (.ref fa) →
      ∃ fd : FuncData, (∀ (s : Shared) (u : Value), BindsTo s fd ⟨[u], []⟩ [(x, u)]) ∧ ∀ base : Heap, (K w.params).In base → base.Ns mainGlobals mg → FnG l.prog w (K w.params) mg base (CX w) k fa fd [x] (sp w))
    (hsp : ∀ (w : World) (H : Hp) (a : Addr) (ns : List Int), ns.length ≤ n → Only H → SqL (K w.params) H a (ns.map V.int) → sp w [.ref a] H (fun v _ => v = .bl true) fun _ _ _ => False)
    (hCX : ∀ (w : World) (H : Hp) (s : Shared) (e : Value) (s' : Shared), CX w [] H s (fun _ _ _ => False) e s' → False) : PySem.W.WalkO q loose XP YP l.row.toRowW d [] (fun f vs => PySem.call f vs) := by
  refine Att.attach_call hn hdf fun w s₀ s₁ mg mb fa o pm cd doc a vs ns G Y ho hd hcd hmg hobj hints hlen hg => ?_
  obtain ⟨fd, hb, hF⟩ := F w mg fa _ (hY w _ Y) G.T.g hmg
  exact lawG (hY w _ Y) G.T.g G.T.b G.T.builtins G.T.nolimit hg hobj hints (Nat.le_trans hlen hn2) hr hF hb (fun H hO hS => hsp w H a ns hlen hO hS) fun H e s' => hCX w H s₁ e s'
end
end DL
set_option maxRecDepth 100000
set_option maxHeartbeats 4000000
/-! DL: readings over plain data -/
namespace DL
open PySem PySem.Spec PyProof.Rows L2
abbrev FV := M → Option (T × M)
abbrev FL := M → Option (List PyData × M)
abbrev FB := M → Option (Bool × M)
abbrev FA := M → Option (List T × M)
def LiftV (K : PySem.W.Frag) (f : FV) : TE := fun σ H Q => ∃ (S : SC) (G : Hp) (st : M) (t : T) (st' : M), S.K = K ∧ Rep S G σ H st ∧ f st = some (t, st') ∧
  ∀ v G' H', Same G G' → Rep S G' σ H' st' → TR S G' v t → Q v H'
/-- a list that nobody else holds -/
def LiftL (K : PySem.W.Frag) (f : FL) : TE := fun σ H Q => ∃ (S : SC) (G : Hp) (st : M) (xs : List PyData) (st' : M), S.K = K ∧ Rep S G σ H st ∧ f st = some (xs, st') ∧
  ∀ a vs G' H', Same G G' → Rep S G' σ H' st' → H' a = some (.lst vs) → vs.length ≤ sizeLine → DrAll S.K G' vs xs → G' a = none → S.Hi a = none → (∀ (j : Nat) (ys : List PyData), st'.ρ[j]? = some (some (.lst ys)) → σ[j]? ≠ some (some (.ref a))) → Q (.ref a) H'
def LiftB (K : PySem.W.Frag) (f : FB) : TT := fun σ H Q => ∃ (S : SC) (G : Hp) (st : M) (b : Bool) (st' : M), S.K = K ∧ Rep S G σ H st ∧ f st = some (b, st') ∧
  ∀ G' H', Same G G' → Rep S G' σ H' st' → Q b H'
def LiftA (K : PySem.W.Frag) (f : FA) : TA := fun σ H Q => ∃ (S : SC) (G : Hp) (st : M) (ts : List T) (st' : M), S.K = K ∧ Rep S G σ H st ∧ f st = some (ts, st') ∧
  ∀ vs G' H', Same G G' → Rep S G' σ H' st' → TRs S G' vs ts → Q vs H'
def DV (X : Cx) (e : Expr) (f : FV) : Prop := PE X e (LiftV X.K f)
def DE (X : Cx) (e : Expr) (f : FL) : Prop := PE X e (LiftL X.K f)
def DB (X : Cx) (e : Expr) (f : FB) : Prop := PT X e (LiftB X.K f)
def DA (X : Cx) (es : List Expr) (f : FA) : Prop := PA X es (LiftA X.K f)
theorem pe_imp {X : Cx} {e : Expr} {t t' : TE} (h : PE X e t) (w : ∀ σ H Q, t' σ H Q → t σ H Q) : PE X e t' := ⟨fun pins s σ H Q I q => h.run pins s σ H Q I (w σ H Q q)⟩
theorem pt_imp {X : Cx} {e : Expr} {t t' : TT} (h : PT X e t) (w : ∀ σ H Q, t' σ H Q → t σ H Q) : PT X e t' := ⟨fun pins s σ H Q I q => h.run pins s σ H Q I (w σ H Q q)⟩
theorem pa_imp {X : Cx} {es : List Expr} {t t' : TA} (h : PA X es t) (w : ∀ σ H Q, t' σ H Q → t σ H Q) : PA X es t' := ⟨fun pos pins s σ H Q I q => h.run pos pins s σ H Q I (w σ H Q q)⟩
/-! ### what is reckoned -/
@[simp] def cV (t : T) : FV := fun st => some (t, st)
@[simp] def vVar (i : Nat) : FV := fun st => match st.ρ[i]? with
  | some (some (.val t)) => some (t, st)
  | _ => none
@[simp] def bd {α β : Type} (f : M → Option (α × M)) (g : α → M → Option (β × M)) : M → Option (β × M) := fun st => (f st).bind fun p => g p.1 p.2
@[simp] def b1 (f : FV) (F : T → Option T) : FV := fun st => (f st).bind fun p => (F p.1).bind fun t => some (t, p.2)
@[simp] def b2 (f g : FV) (F : T → T → Option T) : FV := fun st => (f st).bind fun p => (g p.2).bind fun q => (F p.1 q.1).bind fun t => some (t, q.2)
@[simp] def aNil : FA := fun st => some ([], st)
@[simp] def aCons (f : FV) (g : FA) : FA := fun st => (f st).bind fun p => (g p.2).bind fun q => some (p.1 :: q.1, q.2)
@[simp] def datas : List T → Option (List PyData)
  | [] => some []
  | .d x :: ts => (datas ts).bind fun xs => some (x :: xs)
  | _ :: _ => none
@[simp] def vTup (f : FA) : FV := fun st => (f st).bind fun p => (datas p.1).bind fun xs => if xs.length ≤ 1000 then some (.d (.tuple xs), p.2) else none
@[simp] def lDisp (f : FA) : FL := fun st => (f st).bind fun p => (datas p.1).bind fun xs => if xs.length ≤ 1000 then some (xs, p.2) else none
/-- a fresh list taken as data -/
@[simp] def vOfL (f : FL) : FV := fun st => (f st).bind fun p => some (.d (.list p.1), p.2)
/-- a fresh list whose data are cut into another value at once -/
@[simp] def tBool (f : FV) : FB := fun st => (f st).bind fun p => match p.1 with
  | .d (.bool b) => some (b, p.2)
  | _ => none
@[simp] def vOfB (f : FB) : FV := fun st => (f st).bind fun p => some (.d (.bool p.1), p.2)
@[simp] def bAnd (f g : FB) : FB := fun st => (f st).bind fun p => if p.1 = true then g p.2 else some (false, p.2)
@[simp] def bOr (f g : FB) : FB := fun st => (f st).bind fun p => if p.1 = true then some (true, p.2) else g p.2
@[simp] def bNot (f : FB) : FB := fun st => (f st).bind fun p => some (!p.1, p.2)
@[simp] def vIf (c : FB) (f g : FV) : FV := fun st => (c st).bind fun p => if p.1 = true then f p.2 else g p.2
@[simp] def vAnd (f g : FV) : FV := fun st => (f st).bind fun p => match p.1 with
  | .d (.bool b) => if b = true then g p.2 else some (.d (.bool false), p.2)
  | _ => none
@[simp] def vOr (f g : FV) : FV := fun st => (f st).bind fun p => match p.1 with
  | .d (.bool b) => if b = true then some (.d (.bool true), p.2) else g p.2
  | _ => none
/-- a < b < c -/
@[simp] def vChain (f g h : FV) (F F' : T → T → Option T) : FV := fun st => (f st).bind fun p => (g p.2).bind fun q => (F p.1 q.1).bind fun r => match r with
  | .d (.bool b) => if b = true then (h q.2).bind fun u => (F' q.1 u.1).bind fun t => some (t, u.2) else some (.d (.bool false), q.2)
  | _ => none
theorem obind {α β : Type} {x : Option α} {f : α → Option β} {b : β} (h : x.bind f = some b) : ∃ a, x = some a ∧ f a = some b := Option.bind_eq_some_iff.mp h
section
variable {X : Cx} {a b c e : Expr} {es : List Expr} {f g h : FV} {pos : Pos}
/-! ### bridges -/
theorem Rep.freeze {S : SC} {G H : Hp} {σ : L2.St} {st : M} (R : Rep S G σ H st) {p : Addr} {o : HO} (hp : H p = some o) (hg : G p = none) (hi : S.Hi p = none)
    (hn : ∀ (j : Nat) (ys : List PyData), st.ρ[j]? = some (some (.lst ys)) → σ[j]? ≠ some (some (.ref p))) : Rep S (upd G p o) σ H st := by
  have hd : p ≠ S.da := fun z => R.dn.1 (z ▸ hi)
  have hc : p ≠ S.ca := fun z => R.dn.2 (z ▸ hi)
  refine ⟨⟨fun a x e => ?_, fun a x e => ?_, fun a x e => ?_, R.hi, R.dk, R.dn, ?_, ?_⟩, fun i s e => ?_, R.sep, R.len⟩
  · by_cases h : a = p
    · rw [h, upd_same] at e; rw [h, hp]; exact e
    · rw [upd_ne h] at e; exact R.same a x e
  · rw [upd_ne (fun z => by rw [z] at e; rw [R.gi p x e] at hg; cases hg)]; exact R.gi a x e
  · by_cases h : a = p
    · rw [h]; exact .inr hi
    · rw [upd_ne h] at e; exact R.gn a x e
  · rw [upd_ne hd.symm]; exact R.gd.1
  · rw [upd_ne hc.symm]; exact R.gd.2
  · obtain ⟨v, h1, h2⟩ := R.sl i s e
    refine ⟨v, h1, ?_⟩
    cases s with
    | val t => exact TR.mono (same_new hg) h2
    | lst xs =>
      obtain ⟨q, vs, rfl, hq, hd, hgq, hiq⟩ := h2
      have n : q ≠ p := fun z => hn i xs e (z ▸ h1)
      exact ⟨q, vs, rfl, hq, hd.mono (same_new hg), by rw [upd_ne n]; exact hgq, hiq⟩
theorem dv_ofL {f : FL} (he : DE X e f) : DV X e (vOfL f) := pe_imp he fun σ H Q ⟨S, G, st, t, st', hK, R, hf, q⟩ => by
  obtain ⟨⟨xs, st1⟩, h1, h2⟩ := obind hf
  cases h2
  refine ⟨S, G, st, xs, _, hK, R, h1, fun p vs G' H' s R' hp hz hd hg hi hn => ?_⟩
  have s2 : Same G' (upd G' p (.lst vs)) := same_new hg
  exact q (.ref p) _ H' (s.trans s2) (R'.freeze hp hg hi hn) (.lst (.of upd_same) hz (hd.mono s2))
theorem db_of (he : DV X e f) (hw : ∀ whole, isTrue e X.env whole = (do let v ← whole; standAt e.pos; holding [v] (truthy v)) := by intro _; rfl) : DB X e (tBool f) := pt_imp (pt_val he hw) fun σ H Q ⟨S, G, st, t, st', hK, R, hf, q⟩ => by
  obtain ⟨⟨x, st1⟩, h1, h2⟩ := obind hf
  refine ⟨S, G, st, x, st1, hK, R, h1, fun v G' H' s R' tv => ?_⟩
  cases x with
  | deck => cases h2
  | d x =>
    cases x with
    | bool b =>
      cases h2
      cases (show Dr S.K G' v (.bool _) from tv)
      exact ⟨_, rfl, q G' H' s R'⟩
    | _ => cases h2
/-! ### names, constants -/
theorem dv_var (i : Nat) {x : Str} (hN : X.N[i]? = some x := by rfl) (hv : Vis X.env.scope x := by first | exact Or.inl rfl | exact Or.inr (Or.inl rfl) | exact Or.inr (Or.inr rfl)) (hd : (x == ("__debug__" : Str)) = false := by decide)
    (hcd : (x == ("__classdict__" : Str)) = false := by decide) : DV X (.Name x pos) (vVar i) := pe_imp (pe_var hN hv hd hcd) fun σ H Q ⟨S, G, st, t, st', hK, R, hf, q⟩ => by
  unfold vVar at hf
  split at hf
  · rename_i t' e
    cases hf
    obtain ⟨v, h1, h2⟩ := R.sl i _ e
    exact ⟨v, h1, q v G H (Same.refl G) R h2⟩
  · cases hf
theorem dv_const {v : V} {d : PyData} (he : PE X e (tC v)) (hd : ∀ K G, Dr K G v d) : DV X e (cV (.d d)) := pe_imp he fun σ H Q ⟨S, G, st, t, st', hK, R, hf, q⟩ => by
  cases hf
  exact q v G H (Same.refl G) R (hd S.K G)
theorem dv_int {i : Int} {j : Nat} : DV X (.Constant (.int i) j pos) (cV (.d (.int i))) := dv_const pe_int fun _ _ => .int i
theorem dv_bl {b : Bool} {j : Nat} : DV X (.Constant (.bool b) j pos) (cV (.d (.bool b))) := dv_const pe_bl fun _ _ => .bl b
theorem dv_non {j : Nat} : DV X (.Constant .none j pos) (cV (.d .none)) := dv_const pe_non fun _ _ => .non
theorem dv_str {x : Str} {j : Nat} : DV X (.Constant (.str x) j pos) (cV (.d (.str x))) := dv_const pe_str fun _ _ => .str x
/-! ### argument lists, displays -/
theorem da_nil : DA X [] aNil := pa_imp pa_nil fun σ H Q ⟨S, G, st, t, st', hK, R, hf, q⟩ => by
  cases hf
  exact q [] G H (Same.refl G) R .nil
theorem da_cons {g : FA} (ha : DV X e f) (hr : DA X es g) (hs : starEach (e :: es) X.env = (false, eval e X.env) :: starEach es X.env := by rfl) : DA X (e :: es) (aCons f g) := pa_imp (pa_cons ha hr hs) fun σ H Q ⟨S, G, st, t, st', hK, R, hf, q⟩ => by
  obtain ⟨⟨x, st1⟩, h1, h2⟩ := obind hf
  obtain ⟨⟨xs, st2⟩, h3, h4⟩ := obind h2
  cases h4
  exact ⟨S, G, st, x, st1, hK, R, h1, fun v G1 H1 s1 R1 t1 => ⟨S, G1, st1, xs, _, hK, R1, h3, fun vs G2 H2 s2 R2 t2 => q (v :: vs) G2 H2 (s1.trans s2) R2 (.cons (t1.mono s2) t2)⟩⟩
theorem datas_rel {S : SC} {G : Hp} : ∀ {ts : List T} {xs : List PyData} {vs : List V}, datas ts = some xs → TRs S G vs ts → DrAll S.K G vs xs
  | [], _, _, h, .nil => by
    cases h
    exact .nil
  | .d x :: ts, _, _, h, .cons h1 h2 => by
    obtain ⟨ys, h3, h4⟩ := obind h
    cases h4
    exact .cons h1 (datas_rel h3 h2)
  | .deck :: _, _, _, h, _ => by cases h
theorem small_line {n : Nat} (h : n ≤ 1000) : n ≤ sizeLine := Nat.le_of_lt (small1000 h)
theorem dv_tup {f : FA} {k : Nat} (ha : DA X es f) : DV X (.Tuple es k pos) (vTup f) := pe_imp (pe_tup ha) fun σ H Q ⟨S, G, st, t, st', hK, R, hf, q⟩ => by
  obtain ⟨⟨ts, st1⟩, h1, h2⟩ := obind hf
  obtain ⟨xs, h3, h4⟩ := obind h2
  split at h4
  · rename_i hz
    cases h4
    refine ⟨S, G, st, ts, _, hK, R, h1, fun vs G' H' s R' tv => ?_⟩
    have hd := datas_rel h3 tv
    have hl : vs.length ≤ sizeLine := by rw [hd.length]; exact small_line hz
    refine ⟨hl, fun p hp => ?_⟩
    have s2 := R'.newSame hp (.tup vs)
    exact q _ _ _ (s.trans s2) (R'.new hp _) (.tup (.of upd_same) hl (hd.mono s2))
  · cases h4
theorem de_lst {f : FA} (ha : DA X es f) : DE X (.List es pos) (lDisp f) := pe_imp (pe_lst ha) fun σ H Q ⟨S, G, st, t, st', hK, R, hf, q⟩ => by
  obtain ⟨⟨ts, st1⟩, h1, h2⟩ := obind hf
  obtain ⟨xs, h3, h4⟩ := obind h2
  split at h4
  · rename_i hz
    cases h4
    refine ⟨S, G, st, ts, _, hK, R, h1, fun vs G' H' s R' tv => ?_⟩
    have hd := datas_rel h3 tv
    have hl : vs.length ≤ sizeLine := by rw [hd.length]; exact small_line hz
    refine ⟨hl, fun p hp => q _ _ _ _ s (R'.newOwn hp _) upd_same hl hd (R'.same.free hp) (R'.hnew hp) fun j ys e z => ?_⟩
    obtain ⟨v, e1, a, ws, e2, e3, _⟩ := R'.sl j _ e
    rw [z] at e1
    cases e1
    cases e2
    rw [hp] at e3
    cases e3
  · cases h4
/-! ### operators by values -/
/-- a step that takes one value: what it wants of the rule r -/
def R1ok (K : PySem.W.Frag) (F : T → Option T) (r : V → Hp → VK → Prop) : Prop := ∀ (S : SC) (G : Hp) (σ : L2.St) (H : Hp) (st : M) (v : V) (x t : T) (Q : VK), S.K = K → Rep S G σ H st → TR S G v x → F x = some t →
  (∀ w G' H', Same G G' → Rep S G' σ H' st → TR S G' w t → Q w H') → r v H Q
def R2ok (K : PySem.W.Frag) (F : T → T → Option T) (r : R2) : Prop := ∀ (S : SC) (G : Hp) (σ : L2.St) (H : Hp) (st : M) (v w : V) (x y t : T) (Q : VK), S.K = K → Rep S G σ H st → TR S G v x → TR S G w y → F x y = some t →
  (∀ u G' H', Same G G' → Rep S G' σ H' st → TR S G' u t → Q u H') → r v w H Q
theorem lift1 {K : PySem.W.Frag} {F : T → Option T} {r : V → Hp → VK → Prop} (ok : R1ok K F r) {σ : L2.St} {H : Hp} {Q : VK} (h : LiftV K (b1 f F) σ H Q) : LiftV K f σ H fun v H1 => r v H1 Q := by
  obtain ⟨S, G, st, t, st', hK, R, hf, q⟩ := h
  obtain ⟨⟨x, st1⟩, h1, h2⟩ := obind hf
  obtain ⟨t', h3, h4⟩ := obind h2
  cases h4
  exact ⟨S, G, st, x, _, hK, R, h1, fun v G1 H1 s1 R1 t1 => ok S G1 σ H1 _ v x t Q hK R1 t1 h3 fun w G2 H2 s2 R2 t2 => q w G2 H2 (s1.trans s2) R2 t2⟩
theorem lift2 {K : PySem.W.Frag} {F : T → T → Option T} {r : R2} (ok : R2ok K F r) {σ : L2.St} {H : Hp} {Q : VK} (h : LiftV K (b2 f g F) σ H Q) : LiftV K f σ H fun v H1 => LiftV K g σ H1 fun w H2 => r v w H2 Q := by
  obtain ⟨S, G, st, t, st', hK, R, hf, q⟩ := h
  obtain ⟨⟨x, st1⟩, h1, h2⟩ := obind hf
  obtain ⟨⟨y, st2⟩, h3, h4⟩ := obind h2
  obtain ⟨t', h5, h6⟩ := obind h4
  cases h6
  exact ⟨S, G, st, x, st1, hK, R, h1, fun v G1 H1 s1 R1 t1 => ⟨S, G1, st1, y, _, hK, R1, h3, fun w G2 H2 s2 R2 t2 => ok S G2 σ H2 _ v w x y t Q hK R2 (t1.mono s2) t2 h5 fun u G3 H3 s3 R3 t3 => q u G3 H3 ((s1.trans s2).trans s3) R3 t3⟩⟩
theorem dv_bin {op : Operator} {F : T → T → Option T} {r : R2} (ho : OpR X (binaryOp op) r) (ok : R2ok X.K F r) (ha : DV X a f) (hb : DV X b g) : DV X (.BinOp a op b pos) (b2 f g F) := pe_imp (pe_op ho ha hb) fun _ _ _ h => lift2 ok h
theorem dv_un {op : UnaryOp} {F : T → Option T} {r : V → Hp → VK → Prop} (ho : UnR X (unaryOp op) r) (ok : R1ok X.K F r) (ha : DV X a f) : DV X (.UnaryOp op a pos) (b1 f F) := pe_imp (pe_un ho ha) fun _ _ _ h => lift1 ok h
theorem dv_cmp {op : CmpOp} {F : T → T → Option T} {r : R2} (ho : OpR X (compareOp op) r) (ok : R2ok X.K F r) (ha : DV X a f) (hb : DV X b g) (hm : behindInMarks op b = false) : DV X (.Compare a [op] [b] pos) (b2 f g F) := pe_imp (pe_cmpR ho ha hb hm) fun _ _ _ h => lift2 ok h
theorem db_cmp {op : CmpOp} {F : T → T → Option T} {r : R2} (ho : OpR X (compareOp op) r) (ok : R2ok X.K F r) (ha : DV X a f) (hb : DV X b g) (hm : behindInMarks op b = false) : DB X (.Compare a [op] [b] pos) (tBool (b2 f g F)) := pt_imp (pt_cmpR ho ha hb hm) fun σ H Q ⟨S, G, st, t, st', hK, R, hf, q⟩ => by
  obtain ⟨⟨x, st1⟩, h1, h2⟩ := obind hf
  refine lift2 ok ⟨S, G, st, x, st1, hK, R, h1, fun v G' H' s R' tv => ?_⟩
  cases x with
  | deck => cases h2
  | d x =>
    cases x with
    | bool b =>
      cases h2
      cases (show Dr S.K G' v (.bool _) from tv)
      exact ⟨_, rfl, q G' H' s R'⟩
    | _ => cases h2
theorem lift_chain {K : PySem.W.Frag} {F F' : T → T → Option T} {r r' : R2} (ok : R2ok K F r) (ok' : R2ok K F' r') {σ : L2.St} {H : Hp} {Q : VK} (hh : LiftV K (vChain f g h F F') σ H Q) :
    LiftV K f σ H fun v H1 => LiftV K g σ H1 fun w H2 => r v w H2 fun z H3 => ∃ k, z = .bl k ∧ (if k = true then LiftV K h σ H3 fun u H4 => r' w u H4 Q else Q (.bl false) H3) := by
  obtain ⟨S, G, st, t, st', hK, R, hf, q⟩ := hh
  obtain ⟨⟨x, st1⟩, h1, h2⟩ := obind hf
  obtain ⟨⟨y, st2⟩, h3, h4⟩ := obind h2
  obtain ⟨z, h5, h6⟩ := obind h4
  refine ⟨S, G, st, x, st1, hK, R, h1, fun v G1 H1 s1 R1 t1 => ⟨S, G1, st1, y, st2, hK, R1, h3, fun w G2 H2 s2 R2 t2 => ok S G2 σ H2 _ v w x y z _ hK R2 (t1.mono s2) t2 h5 fun u G3 H3 s3 R3 t3 => ?_⟩⟩
  cases z with
  | deck => cases h6
  | d z =>
    cases z with
    | bool k =>
      cases (show Dr S.K G3 u (.bool _) from t3)
      refine ⟨k, rfl, ?_⟩
      cases k with
      | true =>
        simp only [if_true] at h6 ⊢
        obtain ⟨⟨u', st4⟩, h7, h8⟩ := obind h6
        obtain ⟨t', h9, h10⟩ := obind h8
        cases h10
        exact ⟨S, G3, st2, u', _, hK, R3, h7, fun w' G4 H4 s4 R4 t4 => ok' S G4 σ H4 _ w w' y u' t Q hK R4 (t2.mono (s3.trans s4)) t4 h9 fun u2 G5 H5 s5 R5 t5 => q u2 G5 H5 ((((s1.trans s2).trans s3).trans s4).trans s5) R5 t5⟩
      | false =>
        simp only [Bool.false_eq_true, if_false] at h6 ⊢
        cases h6
        exact q _ G3 H3 ((s1.trans s2).trans s3) R3 (.bl false)
    | _ => cases h6
theorem dv_chain {op op' : CmpOp} {F F' : T → T → Option T} {r r' : R2} (ho : OpR X (compareOp op) r) (ok : R2ok X.K F r) (ho' : OpR X (compareOp op') r') (ok' : R2ok X.K F' r') (ha : DV X a f) (hb : DV X b g) (hc : DV X c h)
    (hm : lastMarks [op, op'] [b, c] = false := by with_unfolding_all rfl) : DV X (.Compare a [op, op'] [b, c] pos) (vChain f g h F F') := pe_imp (pe_chain ho ho' ha hb hc hm) fun _ _ _ h => lift_chain ok ok' h
/-! ### and, or, not, if -/
theorem liftB_of {K : PySem.W.Frag} {f : FB} {σ : L2.St} {H : Hp} {Q : VK} (h : LiftV K (vOfB f) σ H Q) : LiftB K f σ H fun b H1 => Q (.bl b) H1 := by
  obtain ⟨S, G, st, t, st', hK, R, hf, q⟩ := h
  obtain ⟨⟨b, st1⟩, h1, h2⟩ := obind hf
  cases h2
  exact ⟨S, G, st, b, _, hK, R, h1, fun G' H' s R' => q _ G' H' s R' (.bl b)⟩
theorem db_not {f : FB} (ha : DB X a f) : DB X (.UnaryOp .Not a pos) (bNot f) := pt_imp (pt_not ha) fun σ H Q ⟨S, G, st, t, st', hK, R, hf, q⟩ => by
  obtain ⟨⟨b, st1⟩, h1, h2⟩ := obind hf
  cases h2
  exact ⟨S, G, st, b, _, hK, R, h1, q⟩
theorem dv_if {k : FB} (hc : DB X c k) (ha : DV X a f) (hb : DV X b g) : DV X (.IfExp c a b pos) (vIf k f g) := pe_imp (pe_ifExp hc ha hb) fun σ H Q ⟨S, G, st, t, st', hK, R, hf, q⟩ => by
  obtain ⟨⟨d, st1⟩, h1, h2⟩ := obind hf
  refine ⟨S, G, st, d, st1, hK, R, h1, fun G1 H1 s1 R1 => ?_⟩
  cases d with
  | true => exact ⟨S, G1, st1, t, st', hK, R1, h2, fun v G2 H2 s2 R2 t2 => q v G2 H2 (s1.trans s2) R2 t2⟩
  | false => exact ⟨S, G1, st1, t, st', hK, R1, h2, fun v G2 H2 s2 R2 t2 => q v G2 H2 (s1.trans s2) R2 t2⟩
/-- a chain of and, or as a test -/
def DW (X : Cx) (e : Expr) (f : FB) : Prop := PW X e (LiftB X.K f)
theorem pw_imp {t t' : TT} (h : PW X e t) (w : ∀ σ H Q, t' σ H Q → t σ H Q) : PW X e t' := ⟨fun wh pins s σ H Q I q => h.run wh pins s σ H Q I (w σ H Q q)⟩
theorem DW.db {f : FB} (h : DW X e f) : DB X e f := PW.pt h
theorem dw_and1 {f : FB} (ha : DB X a f) : DW X (.BoolOp .And [a] pos) f := pw_and1 ha
theorem dw_or1 {f : FB} (ha : DB X a f) : DW X (.BoolOp .Or [a] pos) f := pw_or1 ha
theorem dw_and {f g : FB} {rest : List Expr} (ha : DB X a f) (hb : DW X (.BoolOp .And (b :: rest) pos) g) : DW X (.BoolOp .And (a :: b :: rest) pos) (bAnd f g) := pw_imp (pw_and ha hb) fun σ H Q ⟨S, G, st, t, st', hK, R, hf, q⟩ => by
  obtain ⟨⟨d, st1⟩, h1, h2⟩ := obind hf
  refine ⟨S, G, st, d, st1, hK, R, h1, fun G1 H1 s1 R1 => ?_⟩
  cases d with
  | true => exact ⟨S, G1, st1, t, st', hK, R1, h2, fun G2 H2 s2 R2 => q G2 H2 (s1.trans s2) R2⟩
  | false =>
    cases h2
    exact q G1 H1 s1 R1
theorem dw_or {f g : FB} {rest : List Expr} (ha : DB X a f) (hb : DW X (.BoolOp .Or (b :: rest) pos) g) : DW X (.BoolOp .Or (a :: b :: rest) pos) (bOr f g) := pw_imp (pw_or ha hb) fun σ H Q ⟨S, G, st, t, st', hK, R, hf, q⟩ => by
  obtain ⟨⟨d, st1⟩, h1, h2⟩ := obind hf
  refine ⟨S, G, st, d, st1, hK, R, h1, fun G1 H1 s1 R1 => ?_⟩
  cases d with
  | false => exact ⟨S, G1, st1, t, st', hK, R1, h2, fun G2 H2 s2 R2 => q G2 H2 (s1.trans s2) R2⟩
  | true =>
    cases h2
    exact q G1 H1 s1 R1
/-- .. as values -/
theorem dv_one {op : BoolOp} (ha : DV X a f) : DV X (.BoolOp op [a] pos) f := pe_one ha
theorem dv_and {rest : List Expr} (ha : DV X a f) (hb : DV X (.BoolOp .And (b :: rest) pos) g) : DV X (.BoolOp .And (a :: b :: rest) pos) (vAnd f g) := pe_imp (pe_and ha hb) fun σ H Q ⟨S, G, st, t, st', hK, R, hf, q⟩ => by
  obtain ⟨⟨x, st1⟩, h1, h2⟩ := obind hf
  refine ⟨S, G, st, x, st1, hK, R, h1, fun v G1 H1 s1 R1 t1 => ?_⟩
  cases x with
  | deck => cases h2
  | d x =>
    cases x with
    | bool k =>
      cases (show Dr S.K G1 v (.bool _) from t1)
      refine ⟨k, rfl, ?_⟩
      cases k with
      | true => exact ⟨S, G1, st1, t, st', hK, R1, h2, fun v G2 H2 s2 R2 t2 => q v G2 H2 (s1.trans s2) R2 t2⟩
      | false =>
        cases h2
        exact q _ G1 H1 s1 R1 (.bl false)
    | _ => cases h2
theorem dv_or {rest : List Expr} (ha : DV X a f) (hb : DV X (.BoolOp .Or (b :: rest) pos) g) : DV X (.BoolOp .Or (a :: b :: rest) pos) (vOr f g) := pe_imp (pe_or ha hb) fun σ H Q ⟨S, G, st, t, st', hK, R, hf, q⟩ => by
  obtain ⟨⟨x, st1⟩, h1, h2⟩ := obind hf
  refine ⟨S, G, st, x, st1, hK, R, h1, fun v G1 H1 s1 R1 t1 => ?_⟩
  cases x with
  | deck => cases h2
  | d x =>
    cases x with
    | bool k =>
      cases (show Dr S.K G1 v (.bool _) from t1)
      refine ⟨k, rfl, ?_⟩
      cases k with
      | false => exact ⟨S, G1, st1, t, st', hK, R1, h2, fun v G2 H2 s2 R2 t2 => q v G2 H2 (s1.trans s2) R2 t2⟩
      | true =>
        cases h2
        exact q _ G1 H1 s1 R1 (.bl true)
    | _ => cases h2
theorem dv_not (ha : DV X a f) : DV X (.UnaryOp .Not a pos) (vOfB (bNot (tBool f))) := pe_imp (pe_not ha) fun σ H Q ⟨S, G, st, t, st', hK, R, hf, q⟩ => by
  obtain ⟨⟨b', st1⟩, h1, h2⟩ := obind hf
  obtain ⟨⟨b, st2⟩, h3, h4⟩ := obind h1
  obtain ⟨⟨x, st3⟩, h5, h6⟩ := obind h3
  cases h2
  cases h4
  refine ⟨S, G, st, x, st3, hK, R, h5, fun v G1 H1 s1 R1 t1 => ?_⟩
  cases x with
  | deck => cases h6
  | d x =>
    cases x with
    | bool k =>
      cases h6
      cases (show Dr S.K G1 v (.bool _) from t1)
      exact ⟨_, rfl, q _ G1 H1 s1 R1 (.bl _)⟩
    | _ => cases h6
end
end DL
set_option maxRecDepth 100000
set_option maxHeartbeats 4000000
/-! DL: operators and built-ins by data -/
namespace DL
open PySem PySem.Spec PyProof.Rows L2
/-- data that == may look at -/
def okD (x : PyData) : Bool := x.plain && decide (x.depth ≤ 60)
@[simp] def fAdd : T → T → Option T
  | .d (.int i), .d (.int j) => some (.d (.int (i + j)))
  | .d (.str x), .d (.str y) => if x.length + y.length ≤ sizeLine then some (.d (.str (x ++ y))) else none
  | .d (.tuple xs), .d (.tuple ys) => if xs.length + ys.length ≤ sizeLine then some (.d (.tuple (xs ++ ys))) else none
  | .d (.list xs), .d (.list ys) => if xs.length + ys.length ≤ sizeLine then some (.d (.list (xs ++ ys))) else none
  | _, _ => none
@[simp] def fSub : T → T → Option T
  | .d (.int i), .d (.int j) => some (.d (.int (i - j)))
  | _, _ => none
@[simp] def fMul : T → T → Option T
  | .d (.int i), .d (.int j) => if (-(2 ^ 64) < i ∧ i < 2 ^ 64) ∨ (-(2 ^ 64) < j ∧ j < 2 ^ 64) then some (.d (.int (i * j))) else none
  | _, _ => none
@[simp] def fDiv : T → T → Option T
  | .d (.int i), .d (.int j) => if 0 < j ∧ j < 1073741824 then some (.d (.int (i / j))) else none
  | _, _ => none
@[simp] def fMod : T → T → Option T
  | .d (.int i), .d (.int j) => if 0 < j then some (.d (.int (i % j))) else none
  | _, _ => none
@[simp] def fPow : T → T → Option T
  | .d (.int i), .d (.int j) => if 0 ≤ j ∧ j ≤ 1000000 ∧ i.natAbs < 2 ^ 64 then some (.d (.int (i ^ j.toNat))) else none
  | _, _ => none
@[simp] def fNeg : T → Option T
  | .d (.int i) => some (.d (.int (-i)))
  | _ => none
@[simp] def fEq : T → T → Option T
  | .d x, .d y => if okD x = true ∧ okD y = true then some (.d (.bool (PyData.eqv x y))) else none
  | _, _ => none
@[simp] def fNe : T → T → Option T
  | .d x, .d y => if okD x = true ∧ okD y = true then some (.d (.bool (!PyData.eqv x y))) else none
  | _, _ => none
/-- data of which < may be asked -/
def okL (x y : PyData) : Prop := PySem.W.alike x y = true ∧ x ≠ .none ∧ x.depth ≤ 60
@[simp] def isNoneD : PyData → Bool
  | .none => true
  | _ => false
def okLb (x y : PyData) : Bool := PySem.W.alike x y && !isNoneD x && decide (x.depth ≤ 60)
@[simp] def fLt : T → T → Option T
  | .d x, .d y => if okLb x y = true then some (.d (.bool (PySem.W.dataLt x y))) else none
  | _, _ => none
@[simp] def fGt : T → T → Option T
  | .d x, .d y => if okLb x y = true then some (.d (.bool (PySem.W.dataLt y x))) else none
  | _, _ => none
@[simp] def fLe : T → T → Option T
  | .d x, .d y => if okLb x y = true then some (.d (.bool (!PySem.W.dataLt y x))) else none
  | _, _ => none
@[simp] def fGe : T → T → Option T
  | .d x, .d y => if okLb x y = true then some (.d (.bool (!PySem.W.dataLt x y))) else none
  | _, _ => none
def okAll (xs : List PyData) : Bool := PyData.plainAll xs && decide (PyData.depthAll xs ≤ 60)
@[simp] def fIn : T → T → Option T
  | .d x, .d (.tuple ys) => if okD x = true ∧ okAll ys = true then some (.d (.bool (ys.any fun y => PyData.eqv y x))) else none
  | .d x, .d (.list ys) => if okD x = true ∧ okAll ys = true then some (.d (.bool (ys.any fun y => PyData.eqv y x))) else none
  | _, _ => none
@[simp] def fNotIn : T → T → Option T
  | .d x, .d (.tuple ys) => if okD x = true ∧ okAll ys = true then some (.d (.bool (!ys.any fun y => PyData.eqv y x))) else none
  | .d x, .d (.list ys) => if okD x = true ∧ okAll ys = true then some (.d (.bool (!ys.any fun y => PyData.eqv y x))) else none
  | _, _ => none
@[simp] def fIsNone : T → T → Option T
  | .d x, .d .none => some (.d (.bool (isNoneD x)))
  | _, _ => none
@[simp] def fIsNot : T → T → Option T
  | .d x, .d .none => some (.d (.bool (!isNoneD x)))
  | _, _ => none
theorem Dr.none_iff {K : PySem.W.Frag} {G : Hp} {v : V} {x : PyData} (h : Dr K G v x) : decide (v = V.non) = isNoneD x := by
  cases h <;> simp [isNoneD]
section
variable {X : Cx}
theorem Dr.reads {X : Cx} {pins : List (Addr × Obj)} {σ : L2.St} {H : Hp} {s : Shared} (I : Inv X pins σ H s) {v : V} {u : Value} {x : PyData} (h : Dr X.K H v x) (r : RelV v u) : ∃ as, Reads s.heap u x as := Dp.reads I x v u h.dp r
theorem DrAll.reads {X : Cx} {pins : List (Addr × Obj)} {σ : L2.St} {H : Hp} {s : Shared} (I : Inv X pins σ H s) {vs : List V} {us : List Value} {xs : List PyData} (h : DrAll X.K H vs xs) (r : Vals vs us) : ∃ as, ReadsAll s.heap us xs as := Dp.readsAll I xs vs us h.dp r
theorem Rep.dr {S : SC} {G H : Hp} {σ : L2.St} {st : M} {K : PySem.W.Frag} (R : Rep S G σ H st) (hK : S.K = K) {v : V} {x : PyData} (h : TR S G v (.d x)) : Dr K H v x := by
  have h' : Dr S.K G v x := h
  rw [hK] at h'
  exact h'.mono R.same
/-! ### + - * // % ** -/
def rAdd : R2 := fun x y H Q => ∃ i j, x = .int i ∧ y = .int j ∧ Q (.int (i + j)) H
/-- lists and tuples of either making -/
def rCatL (K : PySem.W.Frag) : R2 := fun x y H Q => ∃ a b xs ys, x = .ref a ∧ y = .ref b ∧ Rd H a (.lst xs) ∧ Rd H b (.lst ys) ∧ xs.length + ys.length ≤ sizeLine ∧ ∀ p, H p = none → Q (.ref p) (upd H p (.lst (xs ++ ys)))
theorem Rep.sqL {S : SC} {G H : Hp} {σ : L2.St} {st : M} {K : PySem.W.Frag} (R : Rep S G σ H st) (hK : S.K = K) {v : V} {xs : List PyData} (h : TR S G v (.d (.list xs))) : ∃ a vs, v = .ref a ∧ Rd H a (.lst vs) ∧ vs.length ≤ sizeLine ∧ DrAll S.K G vs xs := by
  cases (show Dr S.K G v (.list xs) from h) with
  | @lst a vs _ h1 h2 h3 => exact ⟨a, vs, rfl, h1.imp (R.same _ _) fun ⟨o, q⟩ => ⟨o, R.same _ _ q⟩, h2, h3⟩
theorem Rep.sqT {S : SC} {G H : Hp} {σ : L2.St} {st : M} {K : PySem.W.Frag} (R : Rep S G σ H st) (hK : S.K = K) {v : V} {xs : List PyData} (h : TR S G v (.d (.tuple xs))) : ∃ a vs, v = .ref a ∧ SqT K H a vs ∧ vs.length ≤ sizeLine ∧ DrAll S.K G vs xs := by
  cases (show Dr S.K G v (.tuple xs) from h) with
  | @tup a vs _ h1 h2 h3 => exact ⟨a, vs, rfl, hK ▸ same_sqT R.same h1, h2, h3⟩
theorem TR.int {S : SC} {G : Hp} {v : V} {i : Int} (h : TR S G v (.d (.int i))) : v = .int i := by
  cases (show Dr S.K G v (.int i) from h)
  rfl
theorem TR.str {S : SC} {G : Hp} {v : V} {x : Str} (h : TR S G v (.d (.str x))) : v = .str x := by
  cases (show Dr S.K G v (.str x) from h)
  rfl
theorem TR.bool {S : SC} {G : Hp} {v : V} {x : Bool} (h : TR S G v (.d (.bool x))) : v = .bl x := by
  cases (show Dr S.K G v (.bool x) from h)
  rfl
theorem TR.none {S : SC} {G : Hp} {v : V} (h : TR S G v (.d .none)) : v = .non := by
  cases (show Dr S.K G v .none from h)
  rfl
/-- a new frozen tuple, a new frozen list -/
theorem Rep.newTup {S : SC} {G H : Hp} {σ : L2.St} {st : M} (R : Rep S G σ H st) {p : Addr} (hp : H p = Option.none) {vs : List V} {xs : List PyData} (hl : vs.length ≤ sizeLine) (hd : DrAll S.K G vs xs) : TR S (upd G p (.tup vs)) (.ref p) (.d (.tuple xs)) :=
  Dr.tup (.of upd_same) hl (hd.mono (R.newSame hp _))
theorem Rep.newLst {S : SC} {G H : Hp} {σ : L2.St} {st : M} (R : Rep S G σ H st) {p : Addr} (hp : H p = Option.none) {vs : List V} {xs : List PyData} (hl : vs.length ≤ sizeLine) (hd : DrAll S.K G vs xs) : TR S (upd G p (.lst vs)) (.ref p) (.d (.list xs)) :=
  Dr.lst (.of upd_same) hl (hd.mono (R.newSame hp _))
theorem two_int {K : PySem.W.Frag} {F : T → T → Option T} {C : Int → Int → Prop} {g : Int → Int → V} (hF : ∀ x y t, F x y = some t → ∃ i j d, x = .d (.int i) ∧ y = .d (.int j) ∧ C i j ∧ t = .d d ∧ ∀ G, Dr K G (g i j) d) : R2ok K F (rI C g) := by
  intro S G σ H st v w x y t Q hK R tv tw hf q
  obtain ⟨i, j, d, rfl, rfl, hc, rfl, hd⟩ := hF x y t hf
  exact ⟨i, j, tv.int, tw.int, hc, q _ G H (Same.refl G) R (by subst hK; exact hd G)⟩
theorem ok_sub : R2ok X.K fSub (rI0 fun i j => .int (i - j)) := by
  intro S G σ H st v w x y t Q hK R tv tw hf q
  unfold fSub at hf
  split at hf
  · cases hf
    exact ⟨_, _, tv.int, tw.int, q _ G H (Same.refl G) R (Dr.int _)⟩
  · cases hf
theorem ok_mul : R2ok X.K fMul (rI CMul fun i j => .int (i * j)) := two_int fun x y t h => by
  unfold fMul at h
  split at h
  · split at h
    · rename_i hc
      cases h
      exact ⟨_, _, _, rfl, rfl, hc, rfl, fun _ => .int _⟩
    · cases h
  · cases h
theorem ok_div : R2ok X.K fDiv (rI CDiv fun i j => .int (i / j)) := two_int fun x y t h => by
  unfold fDiv at h
  split at h
  · split at h
    · rename_i hc
      cases h
      exact ⟨_, _, _, rfl, rfl, hc, rfl, fun _ => .int _⟩
    · cases h
  · cases h
theorem ok_mod : R2ok X.K fMod (rI (fun _ j => 0 < j) fun i j => .int (i % j)) := two_int fun x y t h => by
  unfold fMod at h
  split at h
  · split at h
    · rename_i hc
      cases h
      exact ⟨_, _, _, rfl, rfl, hc, rfl, fun _ => .int _⟩
    · cases h
  · cases h
theorem ok_pow : R2ok X.K fPow (rI CPow fun i j => .int (i ^ j.toNat)) := two_int fun x y t h => by
  unfold fPow at h
  split at h
  · split at h
    · rename_i hc
      cases h
      exact ⟨_, _, _, rfl, rfl, hc, rfl, fun _ => .int _⟩
    · cases h
  · cases h
theorem ok_neg : R1ok X.K fNeg (rU fun i => .int (-i)) := by
  intro S G σ H st v x t Q hK R tv hf q
  unfold fNeg at hf
  split at hf
  · cases hf
    exact ⟨_, tv.int, q _ G H (Same.refl G) R (Dr.int _)⟩
  · cases hf
theorem Inv.rd {X : Cx} {pins : List (Addr × Obj)} {σ : L2.St} {H : Hp} {s : Shared} {a : Addr} {xs : List V} (I : Inv X pins σ H s) (h : Rd H a (.lst xs)) : xs.length ≤ sizeLine ∧ ∃ (its : List Value) (n : Nat), Vals xs its ∧ s.heap.get? a = some { cls := .type "list", data := .seq its.toArray n } := by
  obtain ⟨z, its, n, r, e⟩ := h.ok I.hok
  exact ⟨z, its, n, r, e⟩
theorem op_catL : OpR X (binaryOp .Add) (rCatL X.K) := by
  intro pins s σ H x y v u Q I rx ry h
  obtain ⟨l, b, xs, zs, rfl, rfl, hH, hB, hz, q⟩ := h
  cases rx
  cases ry
  obtain ⟨_, its, n, r, e⟩ := Inv.rd I hH
  obtain ⟨_, its2, n2, r2, e2⟩ := Inv.rd I hB
  have h1 := r.length
  have h2 := r2.length
  refine PySem.P.add_list e e2 ?_ (by simp only [List.size_toArray]; omega)
  rw [show its.toArray ++ its2.toArray = (its ++ its2).toArray by simp]
  exact ⟨.ref _, _, I.lnew (t' := s.toks) (r.append r2) (by rw [List.length_append]; omega), rfl, q _ I.fresh⟩
def rAddA (K : PySem.W.Frag) : R2 := fun x y H Q => (∃ i j, x = .int i ∧ y = .int j ∧ Q (.int (i + j)) H) ∨ (∃ i j, x = .str i ∧ y = .str j ∧ i.length + j.length ≤ sizeLine ∧ Q (.str (i ++ j)) H) ∨ rCatA K x y H Q ∨ rCatL K x y H Q
theorem op_addA : OpR X (binaryOp .Add) (rAddA X.K) := OpR.or op_add (OpR.or op_add_str (OpR.or op_catA op_catL))
theorem ok_add : R2ok X.K fAdd (rAddA X.K) := by
  intro S G σ H st v w x y t Q hK R tv tw hf q
  unfold fAdd at hf
  split at hf
  · cases hf
    exact .inl ⟨_, _, tv.int, tw.int, q _ G H (Same.refl G) R (Dr.int _)⟩
  · split at hf
    · rename_i hz
      cases hf
      exact .inr (.inl ⟨_, _, tv.str, tw.str, hz, q _ G H (Same.refl G) R (Dr.str _)⟩)
    · cases hf
  · split at hf
    · rename_i hz
      cases hf
      obtain ⟨a, vs, rfl, h1, l1, d1⟩ := R.sqT hK tv
      obtain ⟨b, ws, rfl, h2, l2, d2⟩ := R.sqT hK tw
      have e1 := d1.length
      have e2 := d2.length
      refine .inr (.inr (.inl ⟨a, b, vs, ws, rfl, rfl, h1, h2, by omega, fun z => ?_, fun _ z => ?_, fun _ _ p hp => ?_⟩))
      · subst z
        cases d1
        exact q _ G H (Same.refl G) R tw
      · subst z
        cases d2
        rw [List.append_nil] at q
        exact q _ G H (Same.refl G) R tv
      · exact q _ _ _ (R.newSame hp _) (R.new hp _) (R.newTup hp (by rw [List.length_append]; omega) (d1.append d2))
    · cases hf
  · split at hf
    · rename_i hz
      cases hf
      obtain ⟨a, vs, rfl, h1, l1, d1⟩ := R.sqL hK tv
      obtain ⟨b, ws, rfl, h2, l2, d2⟩ := R.sqL hK tw
      have e1 := d1.length
      have e2 := d2.length
      exact .inr (.inr (.inr ⟨a, b, vs, ws, rfl, rfl, h1, h2, by omega, fun p hp => q _ _ _ (R.newSame hp _) (R.new hp _) (R.newLst hp (by rw [List.length_append]; omega) (d1.append d2))⟩))
    · cases hf
  · cases hf
/-! ### comparisons of data -/
def rData (K : PySem.W.Frag) (C : PyData → PyData → Prop) (g : PyData → PyData → Bool) : R2 := fun x y H Q => ∃ d e, Dr K H x d ∧ Dr K H y e ∧ C d e ∧ Q (.bl (g d e)) H
theorem okD_iff {x : PyData} : okD x = true ↔ x.plain = true ∧ x.depth ≤ 60 := by simp [okD]
theorem okAll_iff {xs : List PyData} : okAll xs = true ↔ PyData.plainAll xs = true ∧ PyData.depthAll xs ≤ 60 := by simp [okAll]
theorem okLb_iff {x y : PyData} : okLb x y = true ↔ PySem.W.alike x y = true ∧ x ≠ .none ∧ x.depth ≤ 60 := by
  cases x <;> simp [okLb, isNoneD, and_assoc]
theorem op_eqP {k : Nat} (hr : Room k X.A) : OpR X (compareOp .Eq) (rData X.K (fun d e => okD d = true ∧ okD e = true) PyData.eqv) := by
  intro pins s σ H x y v u Q I rx ry h
  obtain ⟨d, e, hd, he, ⟨sd, se⟩, q⟩ := h
  obtain ⟨as, r1⟩ := hd.reads I rx
  obtain ⟨bs, r2⟩ := he.reads I ry
  have z := hr.un
  have z1 := (okD_iff.mp sd).2
  exact SeqAt.eq_plain r1 r2 (okD_iff.mp sd).1 (okD_iff.mp se).1 (by omega) ⟨.bl _, H, I, rfl, q⟩
theorem op_neP {k : Nat} (hr : Room k X.A) : OpR X (compareOp .NotEq) (rData X.K (fun d e => okD d = true ∧ okD e = true) fun d e => !PyData.eqv d e) := by
  intro pins s σ H x y v u Q I rx ry h
  obtain ⟨d, e, hd, he, ⟨sd, se⟩, q⟩ := h
  obtain ⟨as, r1⟩ := hd.reads I rx
  obtain ⟨bs, r2⟩ := he.reads I ry
  have z := hr.un
  have z1 := (okD_iff.mp sd).2
  exact SeqAt.ne_plain r1 r2 (okD_iff.mp sd).1 (okD_iff.mp se).1 (by omega) ⟨.bl _, H, I, rfl, q⟩
theorem op_ltP {k : Nat} (hr : Room k X.A) : OpR X (compareOp .Lt) (rData X.K (fun d e => okLb d e = true) fun d e => PySem.W.dataLt d e) := by
  intro pins s σ H x y v u Q I rx ry h
  obtain ⟨d, e, hd, he, sd, q⟩ := h
  obtain ⟨as, r1⟩ := hd.reads I rx
  obtain ⟨bs, r2⟩ := he.reads I ry
  obtain ⟨z1, z2, z3⟩ := okLb_iff.mp sd
  have z := hr.un
  exact PySem.W.lt_data r1 r2 z1 z2 (by omega) ⟨.bl _, H, I, rfl, q⟩
theorem op_gtP {k : Nat} (hr : Room k X.A) : OpR X (compareOp .Gt) (rData X.K (fun d e => okLb d e = true) fun d e => PySem.W.dataLt e d) := by
  intro pins s σ H x y v u Q I rx ry h
  obtain ⟨d, e, hd, he, sd, q⟩ := h
  obtain ⟨as, r1⟩ := hd.reads I rx
  obtain ⟨bs, r2⟩ := he.reads I ry
  obtain ⟨z1, z2, z3⟩ := okLb_iff.mp sd
  have z := hr.un
  exact PySem.W.gt_data r1 r2 z1 z2 (by omega) ⟨.bl _, H, I, rfl, q⟩
theorem op_leP {k : Nat} (hr : Room k X.A) : OpR X (compareOp .LtE) (rData X.K (fun d e => okLb d e = true) fun d e => !PySem.W.dataLt e d) := by
  intro pins s σ H x y v u Q I rx ry h
  obtain ⟨d, e, hd, he, sd, q⟩ := h
  obtain ⟨as, r1⟩ := hd.reads I rx
  obtain ⟨bs, r2⟩ := he.reads I ry
  obtain ⟨z1, z2, z3⟩ := okLb_iff.mp sd
  have z := hr.un
  exact PySem.W.le_data r1 r2 z1 z2 (by omega) ⟨.bl _, H, I, rfl, q⟩
theorem op_geP {k : Nat} (hr : Room k X.A) : OpR X (compareOp .GtE) (rData X.K (fun d e => okLb d e = true) fun d e => !PySem.W.dataLt d e) := by
  intro pins s σ H x y v u Q I rx ry h
  obtain ⟨d, e, hd, he, sd, q⟩ := h
  obtain ⟨as, r1⟩ := hd.reads I rx
  obtain ⟨bs, r2⟩ := he.reads I ry
  obtain ⟨z1, z2, z3⟩ := okLb_iff.mp sd
  have z := hr.un
  exact PySem.W.ge_data r1 r2 z1 z2 (by omega) ⟨.bl _, H, I, rfl, q⟩
theorem ok_data {K : PySem.W.Frag} {F : T → T → Option T} {C : PyData → PyData → Prop} {g : PyData → PyData → Bool} (hF : ∀ x y t, F x y = some t → ∃ d e, x = .d d ∧ y = .d e ∧ C d e ∧ t = .d (.bool (g d e))) : R2ok K F (rData K C g) := by
  intro S G σ H st v w x y t Q hK R tv tw hf q
  obtain ⟨d, e, rfl, rfl, hc, rfl⟩ := hF x y t hf
  exact ⟨d, e, R.dr hK tv, R.dr hK tw, hc, q _ G H (Same.refl G) R (Dr.bl _)⟩
theorem ok_eq : R2ok X.K fEq (rData X.K (fun d e => okD d = true ∧ okD e = true) PyData.eqv) := ok_data fun x y t h => by
  unfold fEq at h
  split at h
  · split at h
    · rename_i hc
      cases h
      exact ⟨_, _, rfl, rfl, hc, rfl⟩
    · cases h
  · cases h
theorem ok_ne : R2ok X.K fNe (rData X.K (fun d e => okD d = true ∧ okD e = true) fun d e => !PyData.eqv d e) := ok_data fun x y t h => by
  unfold fNe at h
  split at h
  · split at h
    · rename_i hc
      cases h
      exact ⟨_, _, rfl, rfl, hc, rfl⟩
    · cases h
  · cases h
theorem ok_lt : R2ok X.K fLt (rData X.K (fun d e => okLb d e = true) fun d e => PySem.W.dataLt d e) := ok_data fun x y t h => by
  unfold fLt at h
  split at h
  · split at h
    · rename_i hc
      cases h
      exact ⟨_, _, rfl, rfl, hc, rfl⟩
    · cases h
  · cases h
theorem ok_gt : R2ok X.K fGt (rData X.K (fun d e => okLb d e = true) fun d e => PySem.W.dataLt e d) := ok_data fun x y t h => by
  unfold fGt at h
  split at h
  · split at h
    · rename_i hc
      cases h
      exact ⟨_, _, rfl, rfl, hc, rfl⟩
    · cases h
  · cases h
theorem ok_le : R2ok X.K fLe (rData X.K (fun d e => okLb d e = true) fun d e => !PySem.W.dataLt e d) := ok_data fun x y t h => by
  unfold fLe at h
  split at h
  · split at h
    · rename_i hc
      cases h
      exact ⟨_, _, rfl, rfl, hc, rfl⟩
    · cases h
  · cases h
theorem ok_ge : R2ok X.K fGe (rData X.K (fun d e => okLb d e = true) fun d e => !PySem.W.dataLt d e) := ok_data fun x y t h => by
  unfold fGe at h
  split at h
  · split at h
    · rename_i hc
      cases h
      exact ⟨_, _, rfl, rfl, hc, rfl⟩
    · cases h
  · cases h
def rInP (K : PySem.W.Frag) (g : Bool → Bool) : R2 := fun x y H Q => ∃ d ys, Dr K H x d ∧ (Dr K H y (.tuple ys) ∨ Dr K H y (.list ys)) ∧ okD d = true ∧ okAll ys = true ∧ Q (.bl (g (ys.any fun z => PyData.eqv z d))) H
theorem op_inP {k : Nat} (hr : Room k X.A) : OpR X (compareOp .In) (rInP X.K id) := by
  intro pins s σ H x y v u Q I rx ry h
  obtain ⟨d, ys, hd, he, sd, se, q⟩ := h
  obtain ⟨as, r1⟩ := hd.reads I rx
  have z := hr.un
  have z1 := okD_iff.mp sd
  have z2 := okAll_iff.mp se
  rcases he with he | he
  · obtain ⟨bs, r2⟩ := he.reads I ry
    exact SeqAt.in_tuple_data r2 r1 z2.1 z1.1 (by omega) ⟨.bl _, H, I, rfl, q⟩
  · obtain ⟨bs, r2⟩ := he.reads I ry
    exact SeqAt.in_list_data r2 r1 z2.1 z1.1 (by omega) ⟨.bl _, H, I, rfl, q⟩
theorem op_notInP {k : Nat} (hr : Room k X.A) : OpR X (compareOp .NotIn) (rInP X.K not) := by
  intro pins s σ H x y v u Q I rx ry h
  obtain ⟨d, ys, hd, he, sd, se, q⟩ := h
  obtain ⟨as, r1⟩ := hd.reads I rx
  have z := hr.un
  have z1 := okD_iff.mp sd
  have z2 := okAll_iff.mp se
  rcases he with he | he
  · obtain ⟨bs, r2⟩ := he.reads I ry
    exact SeqAt.notIn_tuple_data r2 r1 z2.1 z1.1 (by omega) ⟨.bl _, H, I, rfl, q⟩
  · obtain ⟨bs, r2⟩ := he.reads I ry
    exact SeqAt.notIn_list_data r2 r1 z2.1 z1.1 (by omega) ⟨.bl _, H, I, rfl, q⟩
theorem ok_in : R2ok X.K fIn (rInP X.K id) := by
  intro S G σ H st v w x y t Q hK R tv tw hf q
  unfold fIn at hf
  split at hf
  · split at hf
    · rename_i hc
      cases hf
      exact ⟨_, _, R.dr hK tv, .inl (R.dr hK tw), hc.1, hc.2, q _ G H (Same.refl G) R (Dr.bl _)⟩
    · cases hf
  · split at hf
    · rename_i hc
      cases hf
      exact ⟨_, _, R.dr hK tv, .inr (R.dr hK tw), hc.1, hc.2, q _ G H (Same.refl G) R (Dr.bl _)⟩
    · cases hf
  · cases hf
theorem ok_notIn : R2ok X.K fNotIn (rInP X.K not) := by
  intro S G σ H st v w x y t Q hK R tv tw hf q
  unfold fNotIn at hf
  split at hf
  · split at hf
    · rename_i hc
      cases hf
      exact ⟨_, _, R.dr hK tv, .inl (R.dr hK tw), hc.1, hc.2, q _ G H (Same.refl G) R (Dr.bl _)⟩
    · cases hf
  · split at hf
    · rename_i hc
      cases hf
      exact ⟨_, _, R.dr hK tv, .inr (R.dr hK tw), hc.1, hc.2, q _ G H (Same.refl G) R (Dr.bl _)⟩
    · cases hf
  · cases hf
theorem ok_isN : R2ok X.K fIsNone (fun x y H Q => y = .non ∧ Q (.bl (decide (x = .non))) H) := by
  intro S G σ H st v w x y t Q hK R tv tw hf q
  unfold fIsNone at hf
  split at hf
  · cases hf
    refine ⟨tw.none, ?_⟩
    rw [Dr.none_iff (R.dr hK tv)]
    exact q _ G H (Same.refl G) R (Dr.bl _)
  · cases hf
theorem ok_isNot : R2ok X.K fIsNot (fun x y H Q => y = .non ∧ Q (.bl (!decide (x = .non))) H) := by
  intro S G σ H st v w x y t Q hK R tv tw hf q
  unfold fIsNot at hf
  split at hf
  · cases hf
    refine ⟨tw.none, ?_⟩
    rw [Dr.none_iff (R.dr hK tv)]
    exact q _ G H (Same.refl G) R (Dr.bl _)
  · cases hf
end
end DL
set_option maxRecDepth 100000
set_option maxHeartbeats 4000000
/-! DL: subscripts, slices, built-ins -/
namespace DL
open PySem PySem.Spec PyProof.Rows L2
/-! ### subscripts -/
@[simp] def fIdx : T → T → Option T
  | .d (.list xs), .d (.int i) => (atI xs i).map T.d
  | .d (.tuple xs), .d (.int i) => (atI xs i).map T.d
  | .d (.str z), .d (.int i) => if z.length ≤ sizeLine then (atI z.cps.toList i).map fun c => .d (.str ⟨#[c]⟩) else none
  | _, _ => none
theorem DrAll.atI {K : PySem.W.Frag} {G : Hp} {vs : List V} {xs : List PyData} {i : Int} {d : PyData} (h : DrAll K G vs xs) (e : atI xs i = some d) : ∃ v, L2.atI vs i = some v ∧ Dr K G v d := by
  unfold L2.atI at e ⊢
  rw [h.length]
  cases q : ixN xs.length i with
  | none => rw [q] at e; cases e
  | some j =>
    rw [q] at e
    exact h.get e
section
variable {X : Cx} {a b c e : Expr} {es : List Expr} {f g h : FV} {pos : Pos}
theorem ok_idx : R2ok X.K fIdx (rIx X.K) := by
  intro S G σ H st v w x y t Q hK R tv tw hf q
  unfold fIdx at hf
  split at hf
  · obtain ⟨d, h1, rfl⟩ := Option.map_eq_some_iff.mp hf
    obtain ⟨a, vs, rfl, h2, l2, d2⟩ := R.sqL hK tv
    obtain ⟨u, h3, h4⟩ := d2.atI h1
    exact .inl ⟨a, vs, _, u, rfl, tw.int, .inl h2, h3, q u G H (Same.refl G) R h4⟩
  · obtain ⟨d, h1, rfl⟩ := Option.map_eq_some_iff.mp hf
    obtain ⟨a, vs, rfl, h2, l2, d2⟩ := R.sqT hK tv
    obtain ⟨u, h3, h4⟩ := d2.atI h1
    exact .inr (.inl ⟨a, vs, _, u, rfl, tw.int, h2, h3, q u G H (Same.refl G) R h4⟩)
  · split at hf
    · rename_i hz
      obtain ⟨d, h1, rfl⟩ := Option.map_eq_some_iff.mp hf
      exact .inr (.inr ⟨_, _, d, tv.str, tw.int, hz, h1, q _ G H (Same.refl G) R (Dr.str _)⟩)
    · cases hf
  · cases hf
theorem dv_idx (ha : DV X a f) (hb : DV X b g) (hs : PlainIx b := by exact fun _ _ => rfl) : DV X (.Subscript a b pos) (b2 f g fIdx) := pe_imp (pe_ix ix_seq ha hb hs) fun _ _ _ h => lift2 ok_idx h
/-! ### slices -/
def cutL {α : Type} (xs : List α) (lo hi : Option Int) : List α := (xs.drop (HT.sIx xs.length 0 lo)).take (HT.sIx xs.length xs.length hi - HT.sIx xs.length 0 lo)
theorem DrAll.cut {K : PySem.W.Frag} {G : Hp} {vs : List V} {xs : List PyData} (h : DrAll K G vs xs) (lo hi : Option Int) : DrAll K G (cutV vs lo hi) (cutL xs lo hi) := by
  unfold cutV cutL
  rw [h.length]
  exact (h.drop _).take _
@[simp] def fSlice (t : T) (lo hi : Option Int) : Option T := match t with
  | .d (.list xs) => some (.d (.list (cutL xs lo hi)))
  | .d (.tuple xs) => some (.d (.tuple (cutL xs lo hi)))
  | .d (.str z) => if z.length ≤ sizeLine then some (.d (.str (cutS z lo hi))) else none
  | _ => none
abbrev FO := M → Option (Option Int × M)
@[simp] def oNone : FO := fun st => some (none, st)
@[simp] def oSome (f : FV) : FO := fun st => (f st).bind fun p => match p.1 with
  | .d (.int i) => some (some i, p.2)
  | _ => none
def LiftO (K : PySem.W.Frag) (f : FO) : TO := fun σ H Q => ∃ (S : SC) (G : Hp) (st : M) (o : Option Int) (st' : M), S.K = K ∧ Rep S G σ H st ∧ f st = some (o, st') ∧ ∀ G' H', Same G G' → Rep S G' σ H' st' → Q o H'
def DO (X : Cx) (e : Option Expr) (f : FO) : Prop := PO X e (LiftO X.K f)
theorem po_imp {e : Option Expr} {t t' : TO} (h : PO X e t) (w : ∀ σ H Q, t' σ H Q → t σ H Q) : PO X e t' := ⟨fun pins s σ H Q I q => h.run pins s σ H Q I (w σ H Q q)⟩
theorem do_none : DO X none oNone := po_imp po_none fun σ H Q ⟨S, G, st, t, st', hK, R, hf, q⟩ => by
  cases hf
  exact q G H (Same.refl G) R
theorem do_some (he : DV X e f) : DO X (some e) (oSome f) := po_imp (po_some he) fun σ H Q ⟨S, G, st, t, st', hK, R, hf, q⟩ => by
  obtain ⟨⟨x, st1⟩, h1, h2⟩ := obind hf
  cases x with
  | deck => cases h2
  | d x =>
    cases x with
    | int i =>
      cases h2
      exact ⟨S, G, st, _, _, hK, R, h1, fun v G' H' s R' tv => ⟨i, tv.int, q G' H' s R'⟩⟩
    | _ => cases h2
@[simp] def vSlice (f : FV) (lo hi : FO) : FV := fun st => (f st).bind fun p => (lo p.2).bind fun l => (hi l.2).bind fun u => (fSlice p.1 l.1 u.1).bind fun t => some (t, u.2)
theorem cutL_length {α : Type} (xs : List α) (lo hi : Option Int) : (cutL xs lo hi).length ≤ xs.length := by
  unfold cutL
  simp only [List.length_take, List.length_drop]
  omega
theorem cutL_whole {α : Type} (xs : List α) (lo hi : Option Int) (h : HT.sIx xs.length 0 lo = 0 ∧ HT.sIx xs.length xs.length hi = xs.length) : cutL xs lo hi = xs := by
  unfold cutL
  rw [h.1, h.2]
  simp
theorem dv_slice {lo hi : Option Expr} {fl fu : FO} {p2 : Pos} (ha : DV X a f) (hl : DO X lo fl) (hu : DO X hi fu) : DV X (.Subscript a (.Slice lo hi none p2) pos) (vSlice f fl fu) :=
  pe_imp (pe_slice (SlR.or sl_list (SlR.or sl_tupA sl_str)) ha hl hu) fun σ H Q ⟨S, G, st, t, st', hK, R, hf, q⟩ => by
    obtain ⟨⟨x, st1⟩, h1, h2⟩ := obind hf
    obtain ⟨⟨l, st2⟩, h3, h4⟩ := obind h2
    obtain ⟨⟨u, st3⟩, h5, h6⟩ := obind h4
    obtain ⟨t', h7, h8⟩ := obind h6
    cases h8
    refine ⟨S, G, st, x, st1, hK, R, h1, fun v G1 H1 s1 R1 t1 => ⟨S, G1, st1, l, st2, hK, R1, h3, fun G2 H2 s2 R2 => ⟨S, G2, st2, u, _, hK, R2, h5, fun G3 H3 s3 R3 => ?_⟩⟩⟩
    have tv := t1.mono (s2.trans s3)
    have s0 := (s1.trans s2).trans s3
    cases x with
    | deck => cases h7
    | d x =>
      cases x with
      | list xs =>
        cases h7
        obtain ⟨p, vs, rfl, hp, lp, dp⟩ := R3.sqL hK tv
        exact .inl ⟨p, vs, rfl, .inl hp, fun z hz => q _ _ _ (s0.trans (R3.newSame hz _)) (R3.new hz _) (R3.newLst hz (Nat.le_trans (cutV_length vs l u) lp) (dp.cut l u))⟩
      | tuple xs =>
        cases h7
        obtain ⟨p, vs, rfl, hp, lp, dp⟩ := R3.sqT hK tv
        refine .inr (.inl ⟨p, vs, rfl, hp, fun hw => ?_, fun _ z hz => q _ _ _ (s0.trans (R3.newSame hz _)) (R3.new hz _) (R3.newTup hz (Nat.le_trans (cutV_length vs l u) lp) (dp.cut l u))⟩)
        rw [dp.length] at hw
        rw [cutL_whole _ _ _ hw] at q
        exact q _ G3 H3 s0 R3 tv
      | str z =>
        have h7' : (if z.length ≤ sizeLine then some (T.d (.str (cutS z l u))) else none) = some t := h7
        split at h7'
        · rename_i hz
          cases h7'
          exact .inr (.inr ⟨_, tv.str, hz, q _ G3 H3 s0 R3 (Dr.str _)⟩)
        · cases h7'
      | _ => cases h7
/-! ### built-ins by their values -/
def RAok (K : PySem.W.Frag) (F : List T → Option T) (r : List V → Hp → VK → Prop) : Prop := ∀ (S : SC) (G : Hp) (σ : L2.St) (H : Hp) (st : M) (vs : List V) (ts : List T) (t : T) (Q : VK), S.K = K → Rep S G σ H st → TRs S G vs ts → F ts = some t →
  (∀ w G' H', Same G G' → Rep S G' σ H' st → TR S G' w t → Q w H') → r vs H Q
/-- the same where the answer is a list that nobody else holds -/
def RLok (K : PySem.W.Frag) (F : List T → Option (List PyData)) (r : List V → Hp → VK → Prop) : Prop := ∀ (S : SC) (G : Hp) (σ : L2.St) (H : Hp) (st : M) (vs : List V) (ts : List T) (xs : List PyData) (Q : VK), S.K = K → Rep S G σ H st → TRs S G vs ts → F ts = some xs →
  (∀ p ws, H p = none → ws.length ≤ sizeLine → DrAll S.K G ws xs → Q (.ref p) (upd H p (.lst ws))) → r vs H Q
@[simp] def vCall (f : FA) (F : List T → Option T) : FV := fun st => (f st).bind fun p => (F p.1).bind fun t => some (t, p.2)
@[simp] def lCall (f : FA) (F : List T → Option (List PyData)) : FL := fun st => (f st).bind fun p => (F p.1).bind fun t => some (t, p.2)
theorem liftA {K : PySem.W.Frag} {f : FA} {F : List T → Option T} {r : List V → Hp → VK → Prop} (ok : RAok K F r) {σ : L2.St} {H : Hp} {Q : VK} (h : LiftV K (vCall f F) σ H Q) : LiftA K f σ H fun vs H1 => r vs H1 Q := by
  obtain ⟨S, G, st, t, st', hK, R, hf, q⟩ := h
  obtain ⟨⟨ts, st1⟩, h1, h2⟩ := obind hf
  obtain ⟨t', h3, h4⟩ := obind h2
  cases h4
  exact ⟨S, G, st, ts, _, hK, R, h1, fun vs G1 H1 s1 R1 t1 => ok S G1 σ H1 _ vs ts t Q hK R1 t1 h3 fun w G2 H2 s2 R2 t2 => q w G2 H2 (s1.trans s2) R2 t2⟩
theorem fresh_slot {S : SC} {G H : Hp} {σ : L2.St} {st : M} (R : Rep S G σ H st) {p : Addr} (hp : H p = none) : ∀ (j : Nat) (ys : List PyData), st.ρ[j]? = some (some (.lst ys)) → σ[j]? ≠ some (some (.ref p)) := fun j ys e z => by
  obtain ⟨v, e1, a, ws, e2, e3, _⟩ := R.sl j _ e
  rw [z] at e1
  cases e1
  cases e2
  rw [hp] at e3
  cases e3
theorem liftL {K : PySem.W.Frag} {f : FA} {F : List T → Option (List PyData)} {r : List V → Hp → VK → Prop} (ok : RLok K F r) {σ : L2.St} {H : Hp} {Q : VK} (h : LiftL K (lCall f F) σ H Q) : LiftA K f σ H fun vs H1 => r vs H1 Q := by
  obtain ⟨S, G, st, t, st', hK, R, hf, q⟩ := h
  obtain ⟨⟨ts, st1⟩, h1, h2⟩ := obind hf
  obtain ⟨t', h3, h4⟩ := obind h2
  cases h4
  exact ⟨S, G, st, ts, _, hK, R, h1, fun vs G1 H1 s1 R1 t1 => ok S G1 σ H1 _ vs ts t Q hK R1 t1 h3 fun p ws hp hz hd => q p ws G1 _ s1 (R1.newOwn hp _) upd_same hz hd (R1.same.free hp) (R1.hnew hp) (fresh_slot R1 hp)⟩
variable {x : Str} {id : String} {p : Pos}
theorem dv_callB {f : FA} {F : List T → Option T} {r : List V → Hp → VK → Prop} (hc : CallR X (.builtin id) r) (ok : RAok X.K F r) (hg : Gl X x) (hm : X.mg x = none) (hv : bootBuiltins x = some (.builtin id)) (ha : DA X (e :: es) f) (hn : x ≠ "__name__" := by decide)
    (hdb : (x == ("__debug__" : Str)) = false := by decide) (he : starEach (e :: es) X.env = (false, eval e X.env) :: starEach es X.env := by rfl) (hpl : (backTo pos (starEach es X.env)).any (·.1) = false := by rfl) : DV X (.Call (.Name x p) (e :: es) [] pos) (vCall f F) :=
  pe_imp (pe_callB hc hg hm hv ha hn hdb he hpl) fun _ _ _ h => liftA ok h
theorem de_callB {f : FA} {F : List T → Option (List PyData)} {r : List V → Hp → VK → Prop} (hc : CallR X (.builtin id) r) (ok : RLok X.K F r) (hg : Gl X x) (hm : X.mg x = none) (hv : bootBuiltins x = some (.builtin id)) (ha : DA X (e :: es) f) (hn : x ≠ "__name__" := by decide)
    (hdb : (x == ("__debug__" : Str)) = false := by decide) (he : starEach (e :: es) X.env = (false, eval e X.env) :: starEach es X.env := by rfl) (hpl : (backTo pos (starEach es X.env)).any (·.1) = false := by rfl) : DE X (.Call (.Name x p) (e :: es) [] pos) (lCall f F) :=
  pe_imp (pe_callB hc hg hm hv ha hn hdb he hpl) fun _ _ _ h => liftL ok h
theorem dv_callTy {f : FA} {F : List T → Option T} {r : List V → Hp → VK → Prop} (hc : CallR X (.type id) r) (ok : RAok X.K F r) (hg : Gl X x) (hm : X.mg x = none) (hv : bootBuiltins x = some (.type id)) (ha : DA X (e :: es) f) (hn : x ≠ "__name__" := by decide)
    (hdb : (x == ("__debug__" : Str)) = false := by decide) (he : starEach (e :: es) X.env = (false, eval e X.env) :: starEach es X.env := by rfl) (hpl : (backTo pos (starEach es X.env)).any (·.1) = false := by rfl) : DV X (.Call (.Name x p) (e :: es) [] pos) (vCall f F) :=
  pe_imp (pe_callTy hc hg hm hv ha hn hdb he hpl) fun _ _ _ h => liftA ok h
theorem de_callTy {f : FA} {F : List T → Option (List PyData)} {r : List V → Hp → VK → Prop} (hc : CallR X (.type id) r) (ok : RLok X.K F r) (hg : Gl X x) (hm : X.mg x = none) (hv : bootBuiltins x = some (.type id)) (ha : DA X (e :: es) f) (hn : x ≠ "__name__" := by decide)
    (hdb : (x == ("__debug__" : Str)) = false := by decide) (he : starEach (e :: es) X.env = (false, eval e X.env) :: starEach es X.env := by rfl) (hpl : (backTo pos (starEach es X.env)).any (·.1) = false := by rfl) : DE X (.Call (.Name x p) (e :: es) [] pos) (lCall f F) :=
  pe_imp (pe_callTy hc hg hm hv ha hn hdb he hpl) fun _ _ _ h => liftL ok h
end
/-! ### which -/
@[simp] def fLen : List T → Option T
  | [.d (.list xs)] => some (.d (.int xs.length))
  | [.d (.tuple xs)] => some (.d (.int xs.length))
  | [.d (.str z)] => if z.length ≤ sizeLine then some (.d (.int z.length)) else none
  | _ => none
@[simp] def fInt : List T → Option T
  | [.d (.int i)] => some (.d (.int i))
  | [.d (.bool b)] => some (.d (.int (if b then 1 else 0)))
  | _ => none
@[simp] def fTuple : List T → Option T
  | [.d (.list xs)] => some (.d (.tuple xs))
  | [.d (.tuple xs)] => some (.d (.tuple xs))
  | _ => none
@[simp] def fListOf : List T → Option (List PyData)
  | [.d (.list xs)] => some xs
  | [.d (.tuple xs)] => some xs
  | _ => none
@[simp] def fMax2 : List T → Option T
  | [.d (.int i), .d (.int j)] => some (.d (.int (if j > i then j else i)))
  | _ => none
@[simp] def fMin2 : List T → Option T
  | [.d (.int i), .d (.int j)] => some (.d (.int (if j < i then j else i)))
  | _ => none
@[simp] def fAbs : List T → Option T
  | [.d (.int i)] => some (.d (.int (if i < 0 then -i else i)))
  | _ => none
@[simp] def bools : List PyData → Option (List Bool)
  | [] => some []
  | .bool b :: r => (bools r).map (b :: ·)
  | _ :: _ => none
@[simp] def fAll : List T → Option T
  | [.d (.list xs)] => (bools xs).map fun bs => .d (.bool (bs.all id))
  | _ => none
@[simp] def fAny : List T → Option T
  | [.d (.list xs)] => (bools xs).map fun bs => .d (.bool (bs.any id))
  | _ => none
/-- what repr may show -/
def okS (x : PyData) : Bool := x.showable && !x.hasDict && decide (x.depth ≤ 60) && decide (x.shown.length ≤ sizeLine)
@[simp] def fRepr : List T → Option T
  | [.d x] => if okS x = true then some (.d (.str x.shown)) else none
  | _ => none
/-- what may be sorted -/
def okSort (xs : List PyData) : Bool := (xs.all fun d => xs.all fun e => PySem.W.alike d e) && ((xs.all fun d => match d with | .tuple (_ :: _) => true | _ => false) || (xs.all fun d => match d with | .none => false | .tuple _ => false | _ => true)) && decide (PyData.depthAll xs ≤ 60)
def sortD (xs : List PyData) : List PyData := xs.mergeSort (PySem.W.dataLe false id)
@[simp] def fSorted : List T → Option (List PyData)
  | [.d (.list xs)] => if okSort xs = true then some (sortD xs) else none
  | _ => none
theorem bools_rel {K : PySem.W.Frag} {G : Hp} : ∀ {xs : List PyData} {bs : List Bool} {vs : List V}, bools xs = some bs → DrAll K G vs xs → vs = bs.map V.bl
  | [], _, _, h, .nil => by
    cases h
    rfl
  | x :: xs, bs, _, h, .cons h1 h2 => by
    unfold bools at h
    split at h
    · rename_i e; cases e
    · rename_i b r e
      cases e
      obtain ⟨cs, h3, h4⟩ := Option.map_eq_some_iff.mp h
      subst h4
      cases h1
      rw [bools_rel h3 h2]
      rfl
    · cases h
section
variable {X : Cx}
theorem TRs.one {S : SC} {G : Hp} {vs : List V} {t : T} (h : TRs S G vs [t]) : ∃ v, vs = [v] ∧ TR S G v t := by
  cases h with
  | cons h1 h2 => cases h2; exact ⟨_, rfl, h1⟩
theorem TRs.two {S : SC} {G : Hp} {vs : List V} {t u : T} (h : TRs S G vs [t, u]) : ∃ v w, vs = [v, w] ∧ TR S G v t ∧ TR S G w u := by
  cases h with
  | cons h1 h2 =>
    obtain ⟨w, rfl, h3⟩ := TRs.one h2
    exact ⟨_, w, rfl, h1, h3⟩
theorem ok_len : RAok X.K fLen (fun xs H Q => ∃ x n, xs = [x] ∧ LenV X.K x H n ∧ Q (.int n) H) := by
  intro S G σ H st vs ts t Q hK R tv hf q
  unfold fLen at hf
  split at hf
  · cases hf
    obtain ⟨v, rfl, h⟩ := tv.one
    obtain ⟨p, ws, rfl, hp, lp, dp⟩ := R.sqL hK h
    exact ⟨_, _, rfl, .inl ⟨ws, .inl hp, dp.length.symm⟩, q _ G H (Same.refl G) R (Dr.int _)⟩
  · cases hf
    obtain ⟨v, rfl, h⟩ := tv.one
    obtain ⟨p, ws, rfl, hp, lp, dp⟩ := R.sqT hK h
    exact ⟨_, _, rfl, .inr ⟨ws, hp, dp.length.symm⟩, q _ G H (Same.refl G) R (Dr.int _)⟩
  · split at hf
    · rename_i hz
      cases hf
      obtain ⟨v, rfl, h⟩ := tv.one
      rw [h.str]
      exact ⟨_, _, rfl, ⟨hz, rfl⟩, q _ G H (Same.refl G) R (Dr.int _)⟩
    · cases hf
  · cases hf
theorem ok_int : RAok X.K fInt (fun xs H Q => (∃ i, xs = [.int i] ∧ Q (.int i) H) ∨ ∃ k, xs = [.bl k] ∧ Q (.int (if k then 1 else 0)) H) := by
  intro S G σ H st vs ts t Q hK R tv hf q
  unfold fInt at hf
  split at hf
  · cases hf
    obtain ⟨v, rfl, h⟩ := tv.one
    rw [h.int]
    exact .inl ⟨_, rfl, q _ G H (Same.refl G) R (Dr.int _)⟩
  · cases hf
    obtain ⟨v, rfl, h⟩ := tv.one
    rw [h.bool]
    exact .inr ⟨_, rfl, q _ G H (Same.refl G) R (Dr.int _)⟩
  · cases hf
theorem ok_tuple : RAok X.K fTuple (fun xs H Q => ∃ p ys, xs = [.ref p] ∧ ((SqL X.K H p ys ∧ ∀ l, H l = none → Q (.ref l) (upd H l (.tup ys))) ∨ (SqT X.K H p ys ∧ Q (.ref p) H))) := by
  intro S G σ H st vs ts t Q hK R tv hf q
  unfold fTuple at hf
  split at hf
  · cases hf
    obtain ⟨v, rfl, h⟩ := tv.one
    obtain ⟨p, ws, rfl, hp, lp, dp⟩ := R.sqL hK h
    exact ⟨p, ws, rfl, .inl ⟨.inl hp, fun l hl => q _ _ _ (R.newSame hl _) (R.new hl _) (R.newTup hl lp dp)⟩⟩
  · cases hf
    obtain ⟨v, rfl, h⟩ := tv.one
    obtain ⟨p, ws, rfl, hp, lp, dp⟩ := R.sqT hK h
    exact ⟨p, ws, rfl, .inr ⟨hp, q _ G H (Same.refl G) R h⟩⟩
  · cases hf
theorem ok_listOf : RLok X.K fListOf (fun xs H Q => ∃ p ys, xs = [.ref p] ∧ (SqL X.K H p ys ∨ SqT X.K H p ys) ∧ ∀ l, H l = none → Q (.ref l) (upd H l (.lst ys))) := by
  intro S G σ H st vs ts t Q hK R tv hf q
  unfold fListOf at hf
  split at hf
  · cases hf
    obtain ⟨v, rfl, h⟩ := tv.one
    obtain ⟨p, ws, rfl, hp, lp, dp⟩ := R.sqL hK h
    exact ⟨p, ws, rfl, .inl (.inl hp), fun l hl => q l ws hl lp dp⟩
  · cases hf
    obtain ⟨v, rfl, h⟩ := tv.one
    obtain ⟨p, ws, rfl, hp, lp, dp⟩ := R.sqT hK h
    exact ⟨p, ws, rfl, .inr hp, fun l hl => q l ws hl lp dp⟩
  · cases hf
theorem ok_max2 : RAok X.K fMax2 (fun xs H Q => ∃ i j, xs = [.int i, .int j] ∧ Q (.int (if j > i then j else i)) H) := by
  intro S G σ H st vs ts t Q hK R tv hf q
  unfold fMax2 at hf
  split at hf
  · cases hf
    obtain ⟨v, w, rfl, h, h'⟩ := tv.two
    rw [h.int, h'.int]
    exact ⟨_, _, rfl, q _ G H (Same.refl G) R (Dr.int _)⟩
  · cases hf
theorem ok_min2 : RAok X.K fMin2 (fun xs H Q => ∃ i j, xs = [.int i, .int j] ∧ Q (.int (if j < i then j else i)) H) := by
  intro S G σ H st vs ts t Q hK R tv hf q
  unfold fMin2 at hf
  split at hf
  · cases hf
    obtain ⟨v, w, rfl, h, h'⟩ := tv.two
    rw [h.int, h'.int]
    exact ⟨_, _, rfl, q _ G H (Same.refl G) R (Dr.int _)⟩
  · cases hf
theorem ok_abs : RAok X.K fAbs (fun xs H Q => ∃ i, xs = [.int i] ∧ Q (.int (if i < 0 then -i else i)) H) := by
  intro S G σ H st vs ts t Q hK R tv hf q
  unfold fAbs at hf
  split at hf
  · cases hf
    obtain ⟨v, rfl, h⟩ := tv.one
    rw [h.int]
    exact ⟨_, rfl, q _ G H (Same.refl G) R (Dr.int _)⟩
  · cases hf
theorem ok_all : RAok X.K fAll (rAll X.K) := by
  intro S G σ H st vs ts t Q hK R tv hf q
  unfold fAll at hf
  split at hf
  · obtain ⟨bs, h1, h2⟩ := Option.map_eq_some_iff.mp hf
    subst h2
    obtain ⟨v, rfl, h⟩ := tv.one
    obtain ⟨p, ws, rfl, hp, lp, dp⟩ := R.sqL hK h
    have e := bools_rel h1 dp
    subst e
    exact ⟨p, bs, rfl, .inl hp, q _ G H (Same.refl G) R (Dr.bl _)⟩
  · cases hf
theorem ok_any : RAok X.K fAny (rAny X.K) := by
  intro S G σ H st vs ts t Q hK R tv hf q
  unfold fAny at hf
  split at hf
  · obtain ⟨bs, h1, h2⟩ := Option.map_eq_some_iff.mp hf
    subst h2
    obtain ⟨v, rfl, h⟩ := tv.one
    obtain ⟨p, ws, rfl, hp, lp, dp⟩ := R.sqL hK h
    have e := bools_rel h1 dp
    subst e
    exact ⟨p, bs, rfl, .inl hp, q _ G H (Same.refl G) R (Dr.bl _)⟩
  · cases hf
/-- repr of data -/
def rRepr (K : PySem.W.Frag) : List V → Hp → VK → Prop := fun vs H Q => ∃ v x, vs = [v] ∧ Dr K H v x ∧ okS x = true ∧ Q (.str x.shown) H
theorem okS_iff {x : PyData} : okS x = true ↔ x.showable = true ∧ x.hasDict = false ∧ x.depth ≤ 60 ∧ x.shown.length ≤ sizeLine := by
  simp [okS, and_assoc]
theorem cr_repr {k : Nat} (hr : Room k X.A) (hg : X.A.guards = some []) : CallR X (.builtin "repr") (rRepr X.K) := by
  intro pins s σ H vs us Q I r h
  obtain ⟨v, x, rfl, hd, hx, q⟩ := h
  obtain ⟨u, rfl, ru⟩ := vals1 r
  obtain ⟨h1, h2, h3, h4⟩ := okS_iff.mp hx
  obtain ⟨as, rd⟩ := hd.reads I ru
  have fin : ∀ (h' : Heap) (u : Tok) (tk : Nat), (∀ b o, s.heap.get? b = some o → h'.get? b = some o) → EP X pins σ Q (.str x.shown u) { s with heap := h', toks := tk } := fun h' u tk hk => ⟨.str _, H, I.kept hk, ⟨_, rfl⟩, q⟩
  cases hd with
  | non =>
    cases ru
    exact PySem.P.repr_of_none (fin s.heap _ _ fun _ _ e => e)
  | bl b =>
    cases ru
    refine PySem.P.repr_of_bool ?_
    have z := fin s.heap s.toks (s.toks + 1) fun _ _ e => e
    simpa only [PyData.shown] using z
  | int i =>
    obtain ⟨t, rfl⟩ := ru
    refine PySem.P.repr_of_int (by simpa [PyData.showable] using h1) ?_
    have z := fin s.heap s.toks (s.toks + 1) fun _ _ e => e
    simpa only [PyData.shown] using z
  | str y =>
    obtain ⟨t, rfl⟩ := ru
    refine PySem.P.repr_of_str ?_ (by simpa only [PyData.shown] using h4)
    have z := fin s.heap s.toks (s.toks + 1) fun _ _ e => e
    simpa only [PyData.shown] using z
  | lst _ _ _ =>
    cases ru
    have z := hr.un
    exact repr_of_reads' rd h1 (PyData.noDict_hsm h2) hg (by omega) (fun _ _ e => e) (fun h' u tk hk => fin h' u tk hk) h4
  | tup _ _ _ =>
    cases ru
    have z := hr.un
    exact repr_of_reads' rd h1 (PyData.noDict_hsm h2) hg (by omega) (fun _ _ e => e) (fun h' u tk hk => fin h' u tk hk) h4
theorem ok_repr : RAok X.K fRepr (rRepr X.K) := by
  intro S G σ H st vs ts t Q hK R tv hf q
  unfold fRepr at hf
  split at hf
  · split at hf
    · rename_i hc
      cases hf
      obtain ⟨v, rfl, h⟩ := tv.one
      exact ⟨v, _, rfl, R.dr hK h, hc, q _ G H (Same.refl G) R (Dr.str _)⟩
    · cases hf
  · cases hf
end
end DL
set_option maxRecDepth 100000
set_option maxHeartbeats 4000000
/-! DL: sorted, isinstance; what a loop walks -/
namespace DL
open PySem PySem.Spec PyProof.Rows L2
/-! ### sorted -/
def rSort (K : PySem.W.Frag) : List V → Hp → VK → Prop := fun vs H Q => ∃ (G : Hp) (a : Addr) (ws : List V) (xs : List PyData), Same G H ∧ vs = [.ref a] ∧ Rd H a (.lst ws) ∧ DrAll K G ws xs ∧ okSort xs = true ∧ ∀ p ys, H p = none → ys.length ≤ sizeLine → DrAll K G ys (sortD xs) → Q (.ref p) (upd H p (.lst ys))
theorem okSort_iff {xs : List PyData} : okSort xs = true → PySem.W.AllAlike xs ∧ PySem.W.Sortable xs ∧ PyData.depthAll xs ≤ 60 := by
  intro h
  unfold okSort at h
  simp only [Bool.and_eq_true, Bool.or_eq_true, List.all_eq_true, decide_eq_true_eq] at h
  obtain ⟨⟨h1, h2⟩, h3⟩ := h
  refine ⟨fun d hd e he => h1 d hd e he, h2.imp (fun z d hd => ?_) (fun z d hd => ?_), h3⟩
  · have q := z d hd
    split at q
    · exact ⟨_, _, rfl⟩
    · cases q
  · have q := z d hd
    split at q
    · cases q
    · cases q
    · rename_i h1 h2
      exact ⟨fun e => h1 e, fun xs e => h2 xs e⟩
theorem depth_mem : ∀ {xs : List PyData} {x : PyData}, x ∈ xs → x.depth ≤ PyData.depthAll xs
  | [], _, h => by cases h
  | y :: ys, x, h => by
    rcases List.mem_cons.mp h with rfl | h
    · simp only [PyData.depthAll]; exact Nat.le_max_left _ _
    · simp only [PyData.depthAll]; exact Nat.le_trans (depth_mem h) (Nat.le_max_right _ _)
section
variable {X : Cx}
theorem each_of {K : PySem.W.Frag} {H : Hp} : ∀ {ws : List V} {us : List Value} {xs : List PyData}, Vals ws us → DrAll K H ws xs → PySem.W.EachIs (fun u x => ∃ v, RelV v u ∧ Dr K H v x) us xs
  | _, _, _, .nil, .nil => .nil
  | _, _, _, .cons r t, .cons h d => .cons ⟨_, r, h⟩ (each_of t d)
theorem of_each {K : PySem.W.Frag} {H : Hp} : ∀ {us : List Value} {xs : List PyData}, PySem.W.EachIs (fun u x => ∃ v, RelV v u ∧ Dr K H v x) us xs → ∃ ws, Vals ws us ∧ DrAll K H ws xs
  | _, _, .nil => ⟨[], .nil, .nil⟩
  | _, _, .cons ⟨v, r, h⟩ t => let ⟨ws, h1, h2⟩ := of_each t; ⟨v :: ws, .cons r h1, .cons h h2⟩
theorem cr_sort {k : Nat} (hr : Room k X.A) : CallR X (.builtin "sorted") (rSort X.K) := by
  intro pins s σ H vs us Q I r h
  obtain ⟨G, a, ws, xs, sm, rfl, ha, hd, hx, q⟩ := h
  obtain ⟨h1, h2, h3⟩ := okSort_iff hx
  obtain ⟨lz, its, n, rv, e⟩ := Inv.rd I ha
  rw [Vals.ref1 r]
  have z := hr.un
  have hm : xs.map (id : PyData → PyData) = xs := List.map_id xs
  have lx : xs.length ≤ sizeLine := by rw [← hd.length]; exact lz
  refine PySem.W.sorted_data (enc := id) (bs := xs) (vs := its) (R := fun u x => ∃ v, RelV v u ∧ Dr X.K G v x) ⟨_, e, rfl, n, rfl⟩ (each_of rv hd) ?_ (by rw [hm]; exact h1) (by rw [hm]; exact h2) lx (fun b hb => ?_) fun out ho hout => ?_
  · exact (each_of rv hd).mono fun u x ⟨v, r1, d1⟩ => (d1.mono sm).reads I r1
  · have := depth_mem hb
    show X.A.units + 2 + b.depth < cLine
    omega
  · obtain ⟨ys, r1, d1⟩ := of_each hout
    obtain ⟨ep, he'⟩ := PyProof.Rows.sortedAll_at s.heap its out.toArray
    have hlen : ys.length ≤ sizeLine := by rw [r1.length, ho]; exact lx
    exact ⟨.ref _, upd H (s.heap.objs.size + 1) (.lst ys), I.laid (t' := s.toks) (fun _ _ => PyProof.Rows.sortedAll_old) (Nat.le_succ _) ⟨hlen, out, ep, r1, he'⟩, rfl, q _ ys (I.hok.fresh (Nat.le_succ _)) hlen d1⟩
theorem ok_sorted : RLok X.K fSorted (rSort X.K) := by
  intro S G σ H st vs ts xs Q hK R tv hf q
  unfold fSorted at hf
  split at hf
  · split at hf
    · rename_i hc
      cases hf
      obtain ⟨v, rfl, h⟩ := tv.one
      obtain ⟨p, ws, rfl, hp, lp, dp⟩ := R.sqL hK h
      exact ⟨G, p, ws, _, R.same, rfl, hp, hK ▸ dp, hc, fun l ys hl hz hd => q l ys hl hz (hK ▸ hd)⟩
    · cases hf
  · cases hf
/-! ### isinstance -/
inductive Ty where
  | int | bool | str | tuple | list
def Ty.name : Ty → String
  | .int => "int"
  | .bool => "bool"
  | .str => "str"
  | .tuple => "tuple"
  | .list => "list"
@[simp] def isTy : Ty → PyData → Bool
  | .int, .int _ => true
  | .int, .bool _ => true
  | .bool, .bool _ => true
  | .str, .str _ => true
  | .tuple, .tuple _ => true
  | .list, .list _ => true
  | _, _ => false
def tyD : PyData → String
  | .none => "NoneType"
  | .bool _ => "bool"
  | .int _ => "int"
  | .str _ => "str"
  | .list _ => "list"
  | .tuple _ => "tuple"
  | .dict _ => "dict"
theorem isTy_kit (t : Ty) (x : PyData) : kitB (tyD x) t.name = some (isTy t x) := by
  cases t <;> cases x <;> (simp only [tyD, Ty.name, isTy]; decide +kernel)
theorem Dr.ty {K : PySem.W.Frag} {H : Hp} {v : V} {x : PyData} (h : Dr K H v x) : TyX K H v (.type (tyD x)) := by
  cases h with
  | non => exact .base .non
  | bl b => exact .base (.bl b)
  | int i => exact .base (.int i)
  | str y => exact .base (.str y)
  | lst h _ _ =>
    rcases h with h | ⟨o, h⟩
    · exact .base (.lst h)
    · exact .base (.frz h)
  | tup h _ _ =>
    rcases h with (h | ⟨o, h⟩) | ⟨o, its, n, h, hc, _⟩
    · exact .base (.tup h)
    · exact .fTuple h
    · exact .kTuple h hc
@[simp] def fIsa (t : Ty) : T → Option T
  | .d x => some (.d (.bool (isTy t x)))
  | _ => none
theorem dv_isi (t : Ty) {x : Str} {p p2 pos : Pos} {e : Expr} {f : FV} (hgI : Gl X "isinstance") (hmI : X.mg "isinstance" = none) (he : DV X e f) (hg : Gl X x) (hm : X.mg x = none) (hv : bootBuiltins x = some (.type t.name))
    (hn : x ≠ "__name__" := by decide) (hd : (x == ("__debug__" : Str)) = false := by decide) (h1 : starEach [e, .Name x p2] X.env = (false, eval e X.env) :: starEach [.Name x p2] X.env := by rfl)
    (h2 : starEach [.Name x p2] X.env = (false, eval (.Name x p2) X.env) :: starEach [] X.env := by rfl) (hpl : (backTo pos (starEach [.Name x p2] X.env)).any (·.1) = false := by rfl) :
    DV X (.Call (.Name "isinstance" p) [e, .Name x p2] [] pos) (b1 f (fIsa t)) :=
  pe_imp (pe_callB call_isi hgI hmI PyProof.Rows.boot_isinstance (pa_cons he (pa_cons (pe_bltn (v := .ty t.name) hg hm hv rfl hn hd) pa_nil h2) h1) (by decide) (by decide) h1 hpl) fun σ H Q ⟨S, G, st, t', st', hK, R, hf, q⟩ => by
    obtain ⟨⟨y, st1⟩, h3, h4⟩ := obind hf
    obtain ⟨t2, h5, h6⟩ := obind h4
    cases h6
    refine ⟨S, G, st, y, _, hK, R, h3, fun v G1 H1 s1 R1 t1 => ?_⟩
    cases y with
    | deck => cases h5
    | d y =>
      cases h5
      exact ⟨v, .ty t.name, .type (tyD y), .type t.name, isTy t y, rfl, .ty _, (R1.dr hK t1).ty, kit_ty (isTy_kit t y), q _ G1 H1 s1 R1 (Dr.bl _)⟩
/-! ### what a loop walks -/
abbrev FI := M → Option (List T × M)
/-- the turns of J give xs, as long as what is frozen stays -/
def ItR (S : SC) (J : It) (G : Hp) (xs : List T) : Prop := xs.length ≤ sizeLine ∧ ∀ (i : Nat) (H : Hp), Same G H → (i < xs.length → J.go i H ∧ ∀ v H', J.yld i H v H' → ∃ t, xs[i]? = some t ∧ ((H' = H ∧ TR S G v t) ∨ ∃ p o, H p = none ∧ H' = upd H p o ∧ TR S (upd G p o) v t)) ∧ (xs.length ≤ i → J.stop i H)
def LiftI (K : PySem.W.Frag) (f : FI) : TI := fun σ H Q => ∃ (S : SC) (G : Hp) (st : M) (xs : List T) (st' : M), S.K = K ∧ Rep S G σ H st ∧ f st = some (xs, st') ∧ ∀ J G' H', Same G G' → Rep S G' σ H' st' → ItR S J G' xs → Q J H'
def DI (X : Cx) (tg iter : Expr) (f : FI) : Prop := PI X tg iter (LiftI X.K f)
theorem pi_imp {tg iter : Expr} {t t' : TI} (h : PI X tg iter t) (w : ∀ σ H Q, t' σ H Q → t σ H Q) : PI X tg iter t' := ⟨fun pins s σ H Q I q => h.run pins s σ H Q I (w σ H Q q)⟩
/-- a list or a tuple, walked -/
theorem pi_seq {tg l : Expr} {tl : TE} (hl : PE X l tl) : PI X tg l (fun σ H R => tl σ H fun x H1 => ∃ a, x = .ref a ∧ (((∃ xs, SqL X.K H1 a xs) ∧ R (Itl X.K a) H1) ∨ ((∃ xs, SqT X.K H1 a xs) ∧ R (Itt X.K a) H1))) := by
  refine ⟨fun pins s σ H R I h => thn (hl.run pins s σ H _ I h) ?_⟩
  rintro v s1 ⟨x, H1, I1, r1, a, rfl, q1⟩
  cases r1
  have new : ∀ b ∈ [s1.heap.objs.size], FpOk X pins H1 b := fun b hb => by
    rw [List.mem_singleton.mp hb]
    exact I1.fpOk (Nat.le_refl _) (I1.hok.fresh (Nat.le_refl _))
  rcases q1 with ⟨⟨xs, hq⟩, q⟩ | ⟨⟨xs, hq⟩, q⟩
  · obtain ⟨its, rv, p, hz⟩ := I1.list hq
    exact wpAny_pyIter_list p.isList ⟨s1.heap.objs.size, [s1.heap.objs.size], _, _, H1, rfl, I1.kept (t' := s1.toks) (fun b o e => Heap.get?_push_of_some _ e), turn_list a _, ⟨_, Heap.get?_push_size _ rfl, rfl, rfl⟩, new, q⟩
  · obtain ⟨its, rv, p, hz⟩ := I1.tuple hq
    exact wpAny_pyIter_tuple (show s1.heap.IsTuple a its.toArray from p) ⟨s1.heap.objs.size, [s1.heap.objs.size], _, _, H1, rfl, I1.kept (t' := s1.toks) (fun b o e => Heap.get?_push_of_some _ e), turn_tuple a _, ⟨_, Heap.get?_push_size _ rfl, rfl, rfl⟩, new, q⟩
@[simp] def iSeq (f : FV) : FI := fun st => (f st).bind fun p => match p.1 with
  | .d (.list xs) => some (xs.map T.d, p.2)
  | .d (.tuple xs) => some (xs.map T.d, p.2)
  | _ => none
theorem itR_list {S : SC} {G : Hp} {a : Addr} {vs : List V} {xs : List PyData} (h : Rd G a (.lst vs)) (hl : vs.length ≤ sizeLine) (hd : DrAll S.K G vs xs) : ItR S (Itl S.K a) G (xs.map T.d) := by
  refine ⟨by rw [List.length_map, ← hd.length]; exact hl, fun i H sm => ?_⟩
  have hH : SqL S.K H a vs := .inl (h.imp (sm _ _) fun ⟨o, q⟩ => ⟨o, sm _ _ q⟩)
  refine ⟨fun hi => ?_, fun hi => ⟨vs, hH, by rw [hd.length]; simpa using hi⟩⟩
  have hi' : i < xs.length := by simpa using hi
  obtain ⟨v, h1, h2⟩ := hd.get (List.getElem?_eq_getElem hi')
  refine ⟨⟨vs, v, hH, h1⟩, ?_⟩
  rintro w H' ⟨rfl, hy⟩
  have e := hy vs hH
  rw [h1] at e
  cases e
  exact ⟨.d xs[i], by rw [List.getElem?_map, List.getElem?_eq_getElem hi']; rfl, .inl ⟨rfl, h2⟩⟩
theorem itR_tup {S : SC} {G : Hp} {a : Addr} {vs : List V} {xs : List PyData} (h : SqT S.K G a vs) (hl : vs.length ≤ sizeLine) (hd : DrAll S.K G vs xs) : ItR S (Itt S.K a) G (xs.map T.d) := by
  refine ⟨by rw [List.length_map, ← hd.length]; exact hl, fun i H sm => ?_⟩
  have hH : SqT S.K H a vs := same_sqT sm h
  refine ⟨fun hi => ?_, fun hi => ⟨vs, hH, by rw [hd.length]; simpa using hi⟩⟩
  have hi' : i < xs.length := by simpa using hi
  obtain ⟨v, h1, h2⟩ := hd.get (List.getElem?_eq_getElem hi')
  refine ⟨⟨vs, v, hH, h1⟩, ?_⟩
  rintro w H' ⟨rfl, hy⟩
  have e := hy vs hH
  rw [h1] at e
  cases e
  exact ⟨.d xs[i], by rw [List.getElem?_map, List.getElem?_eq_getElem hi']; rfl, .inl ⟨rfl, h2⟩⟩
theorem di_seq {tg l : Expr} {f : FV} (hl : DV X l f) : DI X tg l (iSeq f) := pi_imp (pi_seq hl) fun σ H Q ⟨S, G, st, xs, st', hK, R, hf, q⟩ => by
  obtain ⟨⟨x, st1⟩, h1, h2⟩ := obind hf
  cases x with
  | deck => cases h2
  | d x =>
    cases x with
    | list xs =>
      cases h2
      refine ⟨S, G, st, _, _, hK, R, h1, fun v G' H' s R' tv => ?_⟩
      cases (show Dr S.K G' v (.list xs) from tv) with
      | @lst a vs _ h3 l3 d3 =>
        rw [← hK]
        exact ⟨a, rfl, .inl ⟨⟨vs, .inl (h3.imp (R'.same _ _) fun ⟨o, q⟩ => ⟨o, R'.same _ _ q⟩)⟩, q _ G' H' s R' (itR_list h3 l3 d3)⟩⟩
    | tuple xs =>
      cases h2
      refine ⟨S, G, st, _, _, hK, R, h1, fun v G' H' s R' tv => ?_⟩
      cases (show Dr S.K G' v (.tuple xs) from tv) with
      | @tup a vs _ h3 l3 d3 =>
        rw [← hK]
        exact ⟨a, rfl, .inr ⟨⟨vs, same_sqT R'.same h3⟩, q _ G' H' s R' (itR_tup h3 l3 d3)⟩⟩
    | _ => cases h2
/-- lo, lo + 1, .. below hi -/
def rgD (lo : Int) (n : Nat) : List T := (List.range n).map fun i => T.d (.int (lo + (i : Nat)))
def okR (i : Int) : Bool := decide (-8388608 ≤ i) && decide (i ≤ 8388608)
theorem okR_iff {i : Int} : okR i = true ↔ -8388608 ≤ i ∧ i ≤ 8388608 := by simp [okR]
theorem okR_far {i : Int} (h : okR i = true) : -(2 ^ 62) ≤ i ∧ i < 2 ^ 62 := by
  have := okR_iff.mp h
  omega
@[simp] def iRange1 (f : FA) : FI := fun st => (f st).bind fun p => match p.1 with
  | [.d (.int j)] => if okR j = true then some (rgD 0 j.toNat, p.2) else none
  | _ => none
@[simp] def iRange2 (f : FA) : FI := fun st => (f st).bind fun p => match p.1 with
  | [.d (.int i), .d (.int j)] => if okR i = true ∧ okR j = true then some (rgD i (j - i).toNat, p.2) else none
  | _ => none
theorem itR_range {S : SC} {G : Hp} (lo : Int) (n : Nat) (hn : n ≤ 16777216) : ItR S (Itr lo n) G (rgD lo n) := by
  have hl : (rgD lo n).length = n := by simp [rgD]
  refine ⟨by rw [hl, sizeLine_eq]; exact hn, fun i H sm => ?_⟩
  refine ⟨fun hi => ⟨by rw [hl] at hi; exact hi, ?_⟩, fun hi => by rw [hl] at hi; exact hi⟩
  rintro v H' ⟨rfl, rfl⟩
  rw [hl] at hi
  exact ⟨.d (.int (lo + (i : Nat))), by simp [rgD, hi], .inl ⟨rfl, Dr.int _⟩⟩
theorem di_range1 {tg a : Expr} {f : FA} {p pos : Pos} (hg : Gl X "range") (hm : X.mg "range" = none) (ha : DA X [a] f) (hs : starEach [a] X.env = [(false, eval a X.env)] := by rfl) : DI X tg (.Call (.Name "range" p) [a] [] pos) (iRange1 f) :=
  pi_imp (pi_range1 hg hm ha hs) fun σ H Q ⟨S, G, st, xs, st', hK, R, hf, q⟩ => by
    obtain ⟨⟨ts, st1⟩, h1, h2⟩ := obind hf
    refine ⟨S, G, st, ts, st1, hK, R, h1, fun vs G' H' s R' tv => ?_⟩
    split at h2
    · split at h2
      · rename_i e hc
        cases h2
        simp only at e
        subst e
        obtain ⟨v, rfl, h⟩ := tv.one
        rw [h.int]
        exact ⟨_, rfl, (okR_far hc).1, (okR_far hc).2, q _ G' H' s R' (itR_range 0 _ (by have := okR_iff.mp hc; omega))⟩
      · cases h2
    · cases h2
theorem di_range2 {tg a b : Expr} {f : FA} {p pos : Pos} (hg : Gl X "range") (hm : X.mg "range" = none) (ha : DA X [a, b] f) (hs : starEach [a, b] X.env = [(false, eval a X.env), (false, eval b X.env)] := by rfl)
    (hs2 : starEach [b] X.env = [(false, eval b X.env)] := by rfl) : DI X tg (.Call (.Name "range" p) [a, b] [] pos) (iRange2 f) :=
  pi_imp (pi_range2 hg hm ha hs hs2) fun σ H Q ⟨S, G, st, xs, st', hK, R, hf, q⟩ => by
    obtain ⟨⟨ts, st1⟩, h1, h2⟩ := obind hf
    refine ⟨S, G, st, ts, st1, hK, R, h1, fun vs G' H' s R' tv => ?_⟩
    split at h2
    · split at h2
      · rename_i e hc
        cases h2
        simp only at e
        subst e
        obtain ⟨v, w, rfl, h, h'⟩ := tv.two
        rw [h.int, h'.int]
        exact ⟨_, _, rfl, ⟨(okR_far hc.1).1, (okR_far hc.1).2, (okR_far hc.2).1, (okR_far hc.2).2⟩, q _ G' H' s R' (itR_range _ _ (by have := okR_iff.mp hc.1; have := okR_iff.mp hc.2; omega))⟩
      · cases h2
    · cases h2
/-- zip of two lists, of two tuples -/
def zipD (xs ys : List PyData) : List T := (xs.zip ys).map fun p => T.d (.tuple [p.1, p.2])
@[simp] def iZipD (f : FA) : FI := fun st => (f st).bind fun p => match p.1 with
  | [.d (.list xs), .d (.list ys)] => some (zipD xs ys, p.2)
  | [.d (.tuple xs), .d (.tuple ys)] => some (zipD xs ys, p.2)
  | _ => none
theorem two_line : 2 ≤ sizeLine := by rw [sizeLine_eq]; decide
theorem zip_get {xs ys : List PyData} {i : Nat} (h : i < (zipD xs ys).length) : ∃ x y, xs[i]? = some x ∧ ys[i]? = some y ∧ (zipD xs ys)[i]? = some (T.d (.tuple [x, y])) := by
  simp only [zipD, List.length_map, List.length_zip] at h
  have h1 : i < xs.length := by omega
  have h2 : i < ys.length := by omega
  exact ⟨xs[i], ys[i], List.getElem?_eq_getElem h1, List.getElem?_eq_getElem h2, by
    rw [zipD, List.getElem?_map, (List.getElem?_zip_eq_some (z := (xs[i], ys[i]))).mpr ⟨List.getElem?_eq_getElem h1, List.getElem?_eq_getElem h2⟩]
    rfl⟩
theorem itR_zipL {S : SC} {G : Hp} {a b : Addr} {vs ws : List V} {xs ys : List PyData} (h : Rd G a (.lst vs)) (hl : vs.length ≤ sizeLine) (hd : DrAll S.K G vs xs) (h' : Rd G b (.lst ws)) (hd' : DrAll S.K G ws ys) : ItR S (Itz S.K a b) G (zipD xs ys) := by
  refine ⟨by rw [hd.length] at hl; simp only [zipD, List.length_map, List.length_zip]; omega, fun i H sm => ?_⟩
  have q1 : SqL S.K H a vs := .inl (h.imp (sm _ _) fun ⟨o, q⟩ => ⟨o, sm _ _ q⟩)
  have q2 : SqL S.K H b ws := .inl (h'.imp (sm _ _) fun ⟨o, q⟩ => ⟨o, sm _ _ q⟩)
  refine ⟨fun hi => ?_, fun hi => ⟨vs, ws, q1, q2, ?_⟩⟩
  · obtain ⟨x, y, hx, hy, hz⟩ := zip_get hi
    obtain ⟨v, hv, dv⟩ := hd.get hx
    obtain ⟨w, hw, dw⟩ := hd'.get hy
    refine ⟨⟨vs, ws, v, w, q1, q2, hv, hw⟩, ?_⟩
    rintro u H' ⟨T, x', y', rfl, hT, rfl, e1, e2⟩
    have e1 := e1 vs q1
    have e2 := e2 ws q2
    rw [hv] at e1
    rw [hw] at e2
    cases e1
    cases e2
    refine ⟨_, hz, .inr ⟨T, _, hT, rfl, ?_⟩⟩
    have s2 : Same G (upd G T (.tup [v, w])) := same_new (sm.free hT)
    exact Dr.tup (.of upd_same) two_line (.cons (dv.mono s2) (.cons (dw.mono s2) .nil))
  · rw [hd.length, hd'.length]
    simp only [zipD, List.length_map, List.length_zip] at hi
    omega
theorem itR_zipT {S : SC} {G : Hp} {a b : Addr} {vs ws : List V} {xs ys : List PyData} (h : SqT S.K G a vs) (hl : vs.length ≤ sizeLine) (hd : DrAll S.K G vs xs) (h' : SqT S.K G b ws) (hd' : DrAll S.K G ws ys) : ItR S (RZ.ItzT S.K a b) G (zipD xs ys) := by
  refine ⟨by rw [hd.length] at hl; simp only [zipD, List.length_map, List.length_zip]; omega, fun i H sm => ?_⟩
  have q1 : SqT S.K H a vs := same_sqT sm h
  have q2 : SqT S.K H b ws := same_sqT sm h'
  refine ⟨fun hi => ?_, fun hi => ⟨vs, ws, q1, q2, ?_⟩⟩
  · obtain ⟨x, y, hx, hy, hz⟩ := zip_get hi
    obtain ⟨v, hv, dv⟩ := hd.get hx
    obtain ⟨w, hw, dw⟩ := hd'.get hy
    refine ⟨⟨vs, ws, v, w, q1, q2, hv, hw⟩, ?_⟩
    rintro u H' ⟨T, x', y', rfl, hT, rfl, e1, e2⟩
    have e1 := e1 vs q1
    have e2 := e2 ws q2
    rw [hv] at e1
    rw [hw] at e2
    cases e1
    cases e2
    refine ⟨_, hz, .inr ⟨T, _, hT, rfl, ?_⟩⟩
    have s2 : Same G (upd G T (.tup [v, w])) := same_new (sm.free hT)
    exact Dr.tup (.of upd_same) two_line (.cons (dv.mono s2) (.cons (dw.mono s2) .nil))
  · rw [hd.length, hd'.length]
    simp only [zipD, List.length_map, List.length_zip] at hi
    omega
theorem di_zip {a b : Expr} {f : FA} {p pos tpos : Pos} {elts : List Expr} {kk : Nat} (hg : Gl X "zip") (hm : X.mg "zip" = none) (ha : DA X [a, b] f) (hs : starEach [a, b] X.env = (false, eval a X.env) :: starEach [b] X.env := by rfl)
    (hpl : (backTo pos (starEach [b] X.env)).any (·.1) = false := by rfl) : DI X (.Tuple elts kk tpos) (.Call (.Name "zip" p) [a, b] [] pos) (iZipD f) :=
  pi_imp (RZ.pi_zipA hg hm ha hs hpl) fun σ H Q ⟨S, G, st, xs, st', hK, R, hf, q⟩ => by
    obtain ⟨⟨ts, st1⟩, h1, h2⟩ := obind hf
    refine ⟨S, G, st, ts, st1, hK, R, h1, fun vs G' H' s R' tv => ?_⟩
    split at h2
    · rename_i e
      cases h2
      simp only at e
      subst e
      obtain ⟨v, w, rfl, h, h'⟩ := tv.two
      cases (show Dr S.K G' v (.list _) from h) with
      | @lst a vs _ h3 l3 d3 =>
        cases (show Dr S.K G' w (.list _) from h') with
        | @lst b ws _ h4 l4 d4 =>
          rw [← hK]
          exact ⟨a, b, vs, ws, rfl, .inl ⟨.inl (h3.imp (R'.same _ _) fun ⟨o, q⟩ => ⟨o, R'.same _ _ q⟩), .inl (h4.imp (R'.same _ _) fun ⟨o, q⟩ => ⟨o, R'.same _ _ q⟩), q _ G' H' s R' (itR_zipL h3 l3 d3 h4 d4)⟩⟩
    · rename_i e
      cases h2
      simp only at e
      subst e
      obtain ⟨v, w, rfl, h, h'⟩ := tv.two
      cases (show Dr S.K G' v (.tuple _) from h) with
      | @tup a vs _ h3 l3 d3 =>
        cases (show Dr S.K G' w (.tuple _) from h') with
        | @tup b ws _ h4 l4 d4 =>
          rw [← hK]
          exact ⟨a, b, vs, ws, rfl, .inr ⟨same_sqT R'.same h3, same_sqT R'.same h4, q _ G' H' s R' (itR_zipT h3 l3 d3 h4 d4)⟩⟩
    · cases h2
end
end DL
set_option maxRecDepth 100000
set_option maxHeartbeats 4000000
/-! DL: targets, statements, loops, comprehensions -/
namespace DL
open PySem PySem.Spec PyProof.Rows L2
/-! ### targets -/
abbrev FG := T → M → Option M
abbrev FGs := List T → M → Option M
/-- only slots of vs have changed -/
def Off (vs : List Nat) (σ σ' : L2.St) : Prop := σ'.length = σ.length ∧ ∀ j, j ∉ vs → σ'[j]? = σ[j]?
theorem Off.refl (vs : List Nat) (σ : L2.St) : Off vs σ σ := ⟨rfl, fun _ _ => rfl⟩
def LiftG (K : PySem.W.Frag) (vs : List Nat) (f : FG) : TG := fun v σ H Q => ∃ (S : SC) (G : Hp) (st : M) (t : T) (st' : M), S.K = K ∧ Rep S G σ H st ∧ TR S G v t ∧ f t st = some st' ∧ ∀ σ' H', Rep S G σ' H' st' → Off vs σ σ' → Q σ' H'
def LiftGs (K : PySem.W.Frag) (vs : List Nat) (f : FGs) : TGs := fun us σ H Q => ∃ (S : SC) (G : Hp) (st : M) (ts : List T) (st' : M), S.K = K ∧ Rep S G σ H st ∧ TRs S G us ts ∧ f ts st = some st' ∧ ∀ σ' H', Rep S G σ' H' st' → Off vs σ σ' → Q σ' H'
def DG (X : Cx) (tg : Expr) (vs : List Nat) (f : FG) : Prop := PG X tg (LiftG X.K vs f)
def DGs (X : Cx) (ts : List Expr) (vs : List Nat) (f : FGs) : Prop := PGs X ts (LiftGs X.K vs f)
theorem pg_imp {X : Cx} {tg : Expr} {t t' : TG} (h : PG X tg t) (w : ∀ v σ H Q, t' v σ H Q → t v σ H Q) : PG X tg t' := ⟨fun pins s σ H v u Q I r q => h.run pins s σ H v u Q I r (w v σ H Q q)⟩
theorem pgs_imp {X : Cx} {ts : List Expr} {t t' : TGs} (h : PGs X ts t) (w : ∀ v σ H Q, t' v σ H Q → t v σ H Q) : PGs X ts t' := ⟨fun pins s σ H v u Q I r q => h.run pins s σ H v u Q I r (w v σ H Q q)⟩
@[simp] def M.set (st : M) (i : Nat) (t : T) : M := { st with ρ := st.ρ.set i (some (.val t)) }
@[simp] def M.setL (st : M) (i : Nat) (xs : List PyData) : M := { st with ρ := st.ρ.set i (some (.lst xs)) }
@[simp] def gSet (i : Nat) : FG := fun t st => some (st.set i t)
@[simp] def gsNil : FGs := fun ts st => match ts with
  | [] => some st
  | _ => none
@[simp] def gsCons (f : FG) (g : FGs) : FGs := fun ts st => match ts with
  | t :: r => (f t st).bind fun s1 => g r s1
  | [] => none
/-- (a, b, ..) = a tuple -/
@[simp] def gUnpack (n : Nat) (f : FGs) : FG := fun t st => match t with
  | .d (.tuple xs) => if xs.length = n then f (xs.map T.d) st else none
  | _ => none
theorem drs_trs {S : SC} {G : Hp} : ∀ {vs : List V} {xs : List PyData}, DrAll S.K G vs xs → TRs S G vs (xs.map T.d)
  | _, _, .nil => .nil
  | _, _, .cons h t => .cons h (drs_trs t)
section
variable {X : Cx} {e a b tg iter : Expr} {es : List Expr} {f g : FV} {pos : Pos}
theorem dg_name (i : Nat) {x : Str} (hN : X.N.Nodup) (hi : X.N[i]? = some x := by rfl) (hx : Loc X.env.scope x := by first | exact Or.inl rfl | exact Or.inr rfl) (hf : X.fn x = true ∨ X.env.scope.names.lookup x = some .local := by first | exact .inl rfl | exact .inr rfl) :
    DG X (.Name x pos) [i] (gSet i) := pg_imp (pg_name hN hi hx hf) fun v σ H Q ⟨S, G, st, t, st', hK, R, tv, hf, q⟩ => by
  cases hf
  exact q _ H (R.set tv) ⟨by simp, fun j hj => by rw [List.getElem?_set_ne (fun z => hj (by simp [z]))]⟩
theorem dgs_nil : DGs X [] [] gsNil := pgs_imp pgs_nil fun v σ H Q ⟨S, G, st, t, st', hK, R, tv, hf, q⟩ => by
  cases t with
  | nil =>
    cases hf
    cases tv
    exact ⟨rfl, q σ H R (Off.refl _ _)⟩
  | cons _ _ => cases hf
theorem dgs_cons {f : FG} {g : FGs} {v1 v2 : List Nat} (h1 : DG X e v1 f) (h2 : DGs X es v2 g) (hs : (assignEach (e :: es) X.env).map (·.2) = assign e X.env :: (assignEach es X.env).map (·.2) := by rfl) : DGs X (e :: es) (v1 ++ v2) (gsCons f g) :=
  pgs_imp (pgs_cons h1 h2 hs) fun v σ H Q ⟨S, G, st, t, st', hK, R, tv, hf, q⟩ => by
    cases t with
    | nil => cases hf
    | cons t ts =>
      obtain ⟨s1, h3, h4⟩ := obind hf
      cases tv with
      | cons tv1 tv2 => exact ⟨_, _, rfl, S, G, st, t, s1, hK, R, tv1, h3, fun σ' H' R' o1 => ⟨S, G, s1, ts, st', hK, R', tv2, h4, fun σ2 H2 R2 o2 => q σ2 H2 R2 ⟨o2.1.trans o1.1, fun j hj => (o2.2 j fun z => hj (List.mem_append_right _ z)).trans (o1.2 j fun z => hj (List.mem_append_left _ z))⟩⟩⟩
theorem dg_tup {f : FGs} {k n : Nat} {vs : List Nat} (hc : X.calm = true) (h : DGs X es vs f) (hn : (assignEach es X.env).length = n := by rfl) (hst : (assignEach es X.env).findIdx? (·.1) = none := by rfl) : DG X (.Tuple es k pos) vs (gUnpack n f) :=
  pg_imp (pg_tup hc h hn hst) fun v σ H Q ⟨S, G, st, t, st', hK, R, tv, hf, q⟩ => by
    cases t with
    | deck => cases hf
    | d x =>
      cases x with
      | tuple xs =>
        have hf' : (if xs.length = n then f (xs.map T.d) st else none) = some st' := hf
        split at hf'
        · rename_i hl
          obtain ⟨p, vs, rfl, hp, lp, dp⟩ := R.sqT hK tv
          exact ⟨p, vs, rfl, hp, by rw [dp.length]; exact hl, S, G, st, _, st', hK, R, drs_trs dp, hf', q⟩
        · cases hf'
      | _ => cases hf
/-! ### statements -/
inductive Fl where
  | nx | rt (t : T) | bk | ct
abbrev FS := M → Option (Fl × M)
def FlR (S : SC) (G : Hp) (D : Ends) (st' : M) : Fl → Prop
  | .nx => ∀ G' σ' H', Same G G' → Rep S G' σ' H' st' → D.nx σ' H'
  | .rt t => ∀ v G' σ' H', Same G G' → Rep S G' σ' H' st' → TR S G' v t → D.rt v H'
  | .bk => ∀ G' σ' H', Same G G' → Rep S G' σ' H' st' → D.bk σ' H'
  | .ct => ∀ G' σ' H', Same G G' → Rep S G' σ' H' st' → D.ct σ' H'
theorem FlR.mono {S : SC} {G G' : Hp} {D : Ends} {st' : M} (s : Same G G') : ∀ {fl : Fl}, FlR S G D st' fl → FlR S G' D st' fl
  | .nx, h => fun G2 σ H s2 R => h G2 σ H (s.trans s2) R
  | .rt _, h => fun v G2 σ H s2 R t => h v G2 σ H (s.trans s2) R t
  | .bk, h => fun G2 σ H s2 R => h G2 σ H (s.trans s2) R
  | .ct, h => fun G2 σ H s2 R => h G2 σ H (s.trans s2) R
def LiftS (K : PySem.W.Frag) (f : FS) : TS := fun D σ H => ∃ (S : SC) (G : Hp) (st : M) (fl : Fl) (st' : M), S.K = K ∧ Rep S G σ H st ∧ f st = some (fl, st') ∧ FlR S G D st' fl
def DS (X : Cx) (s : Stmt) (f : FS) : Prop := PS X s (LiftS X.K f)
def DSs (X : Cx) (s : List Stmt) (f : FS) : Prop := PSs X s (LiftS X.K f)
theorem ps_imp {s : Stmt} {t t' : TS} (h : PS X s t) (w : ∀ D σ H, t' D σ H → t D σ H) : PS X s t' := ⟨fun pins s σ H D I q => h.run pins s σ H D I (w D σ H q)⟩
theorem pss_imp {s : List Stmt} {t t' : TS} (h : PSs X s t) (w : ∀ D σ H, t' D σ H → t D σ H) : PSs X s t' := ⟨fun pins s σ H D I q => h.run pins s σ H D I (w D σ H q)⟩
@[simp] def sNil : FS := fun st => some (.nx, st)
@[simp] def sSeq (f g : FS) : FS := fun st => (f st).bind fun p => match p.1 with
  | .nx => g p.2
  | fl => some (fl, p.2)
@[simp] def sBreak : FS := fun st => some (.bk, st)
@[simp] def sCont : FS := fun st => some (.ct, st)
@[simp] def sExpr (f : FV) : FS := fun st => (f st).bind fun p => some (.nx, p.2)
@[simp] def sRet (f : FV) : FS := fun st => (f st).bind fun p => some (.rt p.1, p.2)
@[simp] def sRetN : FS := fun st => some (.rt (.d .none), st)
@[simp] def sIf (c : FB) (f g : FS) : FS := fun st => (c st).bind fun p => if p.1 = true then f p.2 else g p.2
@[simp] def sAsg (f : FV) (g : FG) : FS := fun st => (f st).bind fun p => (g p.1 p.2).bind fun s => some (.nx, s)
/-- a list that nobody else holds, stored -/
@[simp] def sOwn (i : Nat) (f : FL) : FS := fun st => (f st).bind fun p => some (.nx, p.2.setL i p.1)
@[simp] def sNever : FS := fun _ => none
variable {s : Stmt} {ss : List Stmt}
theorem dss_nil : DSs X [] sNil := pss_imp pss_nil fun D σ H ⟨S, G, st, fl, st', hK, R, hf, q⟩ => by
  cases hf
  exact q G σ H (Same.refl G) R
theorem dss_cons {f g : FS} (h1 : DS X s f) (h2 : DSs X ss g) : DSs X (s :: ss) (sSeq f g) := pss_imp (pss_cons h1 h2) fun D σ H ⟨S, G, st, fl, st', hK, R, hf, q⟩ => by
  obtain ⟨⟨fl1, st1⟩, h3, h4⟩ := obind hf
  cases fl1 with
  | nx => exact ⟨S, G, st, .nx, st1, hK, R, h3, fun G1 σ1 H1 s1 R1 => ⟨S, G1, st1, fl, st', hK, R1, h4, q.mono s1⟩⟩
  | rt t =>
    cases h4
    exact ⟨S, G, st, .rt t, st1, hK, R, h3, q⟩
  | bk =>
    cases h4
    exact ⟨S, G, st, .bk, st1, hK, R, h3, q⟩
  | ct =>
    cases h4
    exact ⟨S, G, st, .ct, st1, hK, R, h3, q⟩
theorem dss_one {f : FS} (h1 : DS X s f) : DSs X [s] f := pss_one h1
theorem ds_never : DS X s sNever := ps_imp ps_never fun D σ H ⟨S, G, st, fl, st', hK, R, hf, q⟩ => by cases hf
theorem dss_never : DSs X ss sNever := pss_imp pss_never fun D σ H ⟨S, G, st, fl, st', hK, R, hf, q⟩ => by cases hf
theorem ds_pass : DS X (.Pass pos) sNil := ps_imp ps_pass fun D σ H ⟨S, G, st, fl, st', hK, R, hf, q⟩ => by
  cases hf
  exact q G σ H (Same.refl G) R
theorem ds_break : DS X (.Break pos) sBreak := ps_imp ps_break fun D σ H ⟨S, G, st, fl, st', hK, R, hf, q⟩ => by
  cases hf
  exact q G σ H (Same.refl G) R
theorem ds_cont : DS X (.Continue pos) sCont := ps_imp ps_continue fun D σ H ⟨S, G, st, fl, st', hK, R, hf, q⟩ => by
  cases hf
  exact q G σ H (Same.refl G) R
theorem ds_expr (he : DV X e f) (hs : swapsWith e none pos.line X.env = pure false := by rfl) : DS X (.Expr e pos) (sExpr f) := ps_imp (ps_expr he hs) fun D σ H ⟨S, G, st, fl, st', hK, R, hf, q⟩ => by
  obtain ⟨⟨t, st1⟩, h3, h4⟩ := obind hf
  cases h4
  exact ⟨S, G, st, t, _, hK, R, h3, fun v G1 H1 s1 R1 t1 => q G1 σ H1 s1 R1⟩
theorem ds_ret (he : DV X e f) : DS X (.Return (some e) pos) (sRet f) := ps_imp (ps_ret he) fun D σ H ⟨S, G, st, fl, st', hK, R, hf, q⟩ => by
  obtain ⟨⟨t, st1⟩, h3, h4⟩ := obind hf
  cases h4
  exact ⟨S, G, st, t, _, hK, R, h3, fun v G1 H1 s1 R1 t1 => q v G1 σ H1 s1 R1 t1⟩
theorem ds_retN : DS X (.Return none pos) sRetN := ps_imp ps_retN fun D σ H ⟨S, G, st, fl, st', hK, R, hf, q⟩ => by
  cases hf
  exact q _ G σ H (Same.refl G) R Dr.non
theorem ds_if {c : Expr} {sa sb : List Stmt} {k : FB} {f g : FS} (hc : DB X c k) (ha : DSs X sa f) (hb : DSs X sb g) : DS X (.If c sa sb pos) (sIf k f g) := ps_imp (ps_if hc ha hb) fun D σ H ⟨S, G, st, fl, st', hK, R, hf, q⟩ => by
  obtain ⟨⟨d, st1⟩, h3, h4⟩ := obind hf
  refine ⟨S, G, st, d, st1, hK, R, h3, fun G1 H1 s1 R1 => ?_⟩
  cases d with
  | true => exact ⟨S, G1, st1, fl, st', hK, R1, h4, q.mono s1⟩
  | false => exact ⟨S, G1, st1, fl, st', hK, R1, h4, q.mono s1⟩
theorem ds_asg {g : FG} {vs : List Nat} (he : DV X e f) (hg : DG X tg vs g) (hs : swapsWithSole [tg] e pos.line X.env = pure false := by rfl) (hw : swappedStores [tg] e X.env = pure none := by rfl)
    (h1 : (assignEach [tg] X.env).map (·.2) = [assign tg X.env] := by rfl) : DS X (.Assign [tg] e pos) (sAsg f g) := ps_imp (ps_asg he hg hs hw h1) fun D σ H ⟨S, G, st, fl, st', hK, R, hf, q⟩ => by
  obtain ⟨⟨t, st1⟩, h3, h4⟩ := obind hf
  obtain ⟨s2, h5, h6⟩ := obind h4
  cases h6
  exact ⟨S, G, st, t, st1, hK, R, h3, fun v G1 H1 s1 R1 t1 => ⟨S, G1, st1, t, _, hK, R1, t1, h5, fun σ' H' R' _ => q G1 σ' H' s1 R'⟩⟩
theorem ds_set (i : Nat) {x : Str} {pos' : Pos} (hN : X.N.Nodup) (he : DV X e f) (hi : X.N[i]? = some x := by rfl) (hx : Loc X.env.scope x := by first | exact Or.inl rfl | exact Or.inr rfl) (hs : swapsWith e (some (.Name x pos')) pos.line X.env = pure false := by rfl)
    (hf : X.fn x = true ∨ X.env.scope.names.lookup x = some .local := by first | exact .inl rfl | exact .inr rfl) : DS X (.Assign [.Name x pos'] e pos) (sAsg f (gSet i)) := ps_imp (ps_set hN hi hx he hs hf) fun D σ H ⟨S, G, st, fl, st', hK, R, hf, q⟩ => by
  obtain ⟨⟨t, st1⟩, h3, h4⟩ := obind hf
  obtain ⟨s2, h5, h6⟩ := obind h4
  cases h6
  cases h5
  exact ⟨S, G, st, t, st1, hK, R, h3, fun v G1 H1 s1 R1 t1 => q G1 _ H1 s1 (R1.set t1)⟩
theorem ds_own (i : Nat) {x : Str} {pos' : Pos} {f : FL} (hN : X.N.Nodup) (he : DE X e f) (hi : X.N[i]? = some x := by rfl) (hx : Loc X.env.scope x := by first | exact Or.inl rfl | exact Or.inr rfl) (hs : swapsWith e (some (.Name x pos')) pos.line X.env = pure false := by rfl)
    (hf : X.fn x = true ∨ X.env.scope.names.lookup x = some .local := by first | exact .inl rfl | exact .inr rfl) : DS X (.Assign [.Name x pos'] e pos) (sOwn i f) := ps_imp (ps_set hN hi hx he hs hf) fun D σ H ⟨S, G, st, fl, st', hK, R, hf, q⟩ => by
  obtain ⟨⟨xs, st1⟩, h3, h4⟩ := obind hf
  cases h4
  exact ⟨S, G, st, xs, st1, hK, R, h3, fun p vs G1 H1 s1 R1 hp hz hd hg hi hn => q G1 _ H1 s1 (R1.setOwn hp hz hd hg hi hn)⟩
/-! ### for -/
def forS (g : FG) (body : FS) : List T → FS
  | [], st => some (.nx, st)
  | t :: ts, st => (g t st).bind fun s1 => (body s1).bind fun p => match p.1 with
    | .nx => forS g body ts p.2
    | .ct => forS g body ts p.2
    | .bk => some (.nx, p.2)
    | .rt r => some (.rt r, p.2)
@[simp] def sFor (it : FI) (g : FG) (body : FS) : FS := fun st => (it st).bind fun p => forS g body p.1 p.2
theorem ds_for {body : List Stmt} {it : FI} {g : FG} {bf : FS} {vs : List Nat} (hp : PassesOwn (model X.prog X.w) X.A X.env X.xe) (hc : X.calm = true) (hi : DI X tg iter it) (hg : DG X tg vs g) (hb : DSs X body bf)
    (hs : ∀ x, foldedSetIterable iter X.env x = pure x := by intro _; rfl) : DS X (.For tg iter body [] pos) (sFor it g bf) := ps_imp (ps_for hp hc hi hg hb hs) fun D σ H ⟨S, G, st, fl, st', hK, R, hf, q⟩ => by
  obtain ⟨⟨ts, st1⟩, h3, h4⟩ := obind hf
  refine ⟨S, G, st, ts, st1, hK, R, h3, fun J G1 H1 s1 R1 hJ => ?_⟩
  refine ⟨fun i m σ2 H2 => m = ts.length - i ∧ i ≤ ts.length ∧ ∃ G2 st2, Same G1 G2 ∧ Rep S G2 σ2 H2 st2 ∧ forS g bf (ts.drop i) st2 = some (fl, st'), ⟨_, rfl, Nat.zero_le _, G1, st1, Same.refl _, R1, by simpa using h4⟩, ?_⟩
  rintro i m σ2 H2 ⟨rfl, hle, G2, st2, s2, R2, h5⟩
  have hJ2 := hJ.2 i H2 (s2.trans R2.same)
  by_cases hlt : i < ts.length
  · obtain ⟨go, yl⟩ := hJ2.1 hlt
    rw [List.drop_eq_getElem_cons hlt] at h5
    obtain ⟨st3, h6, h7⟩ := obind h5
    obtain ⟨⟨fl4, st4⟩, h8, h9⟩ := obind h7
    refine .inr ⟨go, fun σ' H' => ∃ G3, Same G1 G3 ∧ Rep S G3 σ' H' st4 ∧ forS g bf (ts.drop (i + 1)) st4 = some (fl, st'), fun σ' H' ⟨G3, s3, R3, e3⟩ => ⟨ts.length - (i + 1), by omega, rfl, hlt, G3, st4, s3, R3, e3⟩, fun v H' hy => ?_⟩
    obtain ⟨t, ht, hv⟩ := yl v H' hy
    rw [List.getElem?_eq_getElem hlt] at ht
    cases ht
    have fin : ∀ G3 H3, Same G2 G3 → Rep S G3 σ2 H3 st2 → TR S G3 v ts[i] → LiftG X.K vs g v σ2 H3 fun σ3 H4 => LiftS X.K bf { D with nx := fun σ' H' => ∃ G3, Same G1 G3 ∧ Rep S G3 σ' H' st4 ∧ forS g bf (ts.drop (i + 1)) st4 = some (fl, st'), ct := fun σ' H' => ∃ G3, Same G1 G3 ∧ Rep S G3 σ' H' st4 ∧ forS g bf (ts.drop (i + 1)) st4 = some (fl, st'), bk := D.nx } σ3 H4 := by
      intro G3 H3 s3 R3 t3
      refine ⟨S, G3, st2, _, st3, hK, R3, t3, h6, fun σ4 H4 R4 _ => ⟨S, G3, st3, fl4, st4, hK, R4, h8, ?_⟩⟩
      cases fl4 with
      | nx => exact fun G5 σ5 H5 s5 R5 => ⟨G5, (s2.trans s3).trans s5, R5, h9⟩
      | ct => exact fun G5 σ5 H5 s5 R5 => ⟨G5, (s2.trans s3).trans s5, R5, h9⟩
      | bk =>
        cases h9
        exact fun G5 σ5 H5 s5 R5 => q G5 σ5 H5 (((s1.trans s2).trans s3).trans s5) R5
      | rt r =>
        cases h9
        exact fun v G5 σ5 H5 s5 R5 t5 => q v G5 σ5 H5 (((s1.trans s2).trans s3).trans s5) R5 t5
    rcases hv with ⟨rfl, tv⟩ | ⟨p, o, hp, rfl, tv⟩
    · exact fin G2 H' (Same.refl _) R2 (tv.mono s2)
    · have n1 : G1 p = none := (s2.trans R2.same).free hp
      refine fin (upd G2 p o) _ (R2.newSame hp o) (R2.new hp o) (tv.mono fun b x e => ?_)
      by_cases hb : b = p
      · rw [hb, upd_same] at e ⊢; exact e
      · rw [upd_ne hb] at e ⊢; exact s2 b x e
  · have hi' : i = ts.length := by omega
    subst hi'
    refine .inl ⟨hJ2.2 (Nat.le_refl _), ?_⟩
    rw [List.drop_length] at h5
    cases h5
    exact q G2 σ2 H2 (s1.trans s2) R2
end
end DL
set_option maxRecDepth 100000
set_option maxHeartbeats 4000000
/-! DL: comprehensions -/
namespace DL
open PySem PySem.Spec PyProof.Rows L2
@[simp] def M.clear (st : M) (i : Nat) : M := { st with ρ := st.ρ.set i none }
@[simp] def M.wipe (st : M) : List Nat → M
  | [] => st
  | i :: vs => (st.wipe vs).clear i
/-- what stood in the slots of vs stands there again -/
@[simp] def M.back (old new : M) : List Nat → M
  | [] => new
  | i :: vs => match old.ρ[i]? with
    | some (some (.val t)) => (old.back new vs).set i t
    | _ => (old.back new vs).clear i
def SC.keep (S : SC) (D : Addr) (o : HO) : SC := { S with Hi := upd S.Hi D o }
theorem TR.keep {S : SC} {D : Addr} {o : HO} {G : Hp} {v : V} : ∀ {t : T}, TR S G v t ↔ TR (S.keep D o) G v t
  | .d _ => Iff.rfl
  | .deck => Iff.rfl
theorem TRs.keep {S : SC} {D : Addr} {o : HO} {G : Hp} : ∀ {vs : List V} {ts : List T}, TRs S G vs ts → TRs (S.keep D o) G vs ts
  | _, _, .nil => .nil
  | _, _, .cons h t => .cons (TR.keep.mp h) t.keep
/-- no slot holds the list at D -/
def Apart (D : Addr) (σ : L2.St) (st : M) : Prop := ∀ (j : Nat) (ys : List PyData), st.ρ[j]? = some (some (.lst ys)) → σ[j]? ≠ some (some (.ref D))
section
variable {S : SC} {G H : Hp} {σ : L2.St} {st : M} {D : Addr} {o : HO}
theorem Rep.keep (R : Rep S G σ H st) (hD : H D = some o) (hG : G D = none) (hi : S.Hi D = none) (ha : Apart D σ st) : Rep (S.keep D o) G σ H st := by
  refine ⟨⟨R.same, R.gi, fun a x e => ?_, fun a x e h1 h2 => ?_, R.dk, ⟨?_, ?_⟩, R.gd⟩, fun i s e => ?_, R.sep, R.len⟩
  · have n : a ≠ D := fun z => by rw [z, hG] at e; cases e
    rcases R.gn a x e with q | q
    · exact .inl q
    · exact .inr (by show upd S.Hi D o a = none; rw [upd_ne n]; exact q)
  · have e' : upd S.Hi D o a = some x := e
    by_cases n : a = D
    · rw [n, upd_same] at e'; rw [n, hD]; exact e'
    · rw [upd_ne n] at e'; exact R.hi a x e' h1 h2
  · have n : S.da ≠ D := fun z => R.dn.1 (z ▸ hi)
    show upd S.Hi D o S.da ≠ none
    rw [upd_ne n]; exact R.dn.1
  · have n : S.ca ≠ D := fun z => R.dn.2 (z ▸ hi)
    show upd S.Hi D o S.ca ≠ none
    rw [upd_ne n]; exact R.dn.2
  · obtain ⟨v, h1, h2⟩ := R.sl i s e
    refine ⟨v, h1, ?_⟩
    cases s with
    | val t => exact TR.keep.mp h2
    | lst xs =>
      obtain ⟨a, vs, rfl, q1, q2, q3, q4, q5⟩ := h2
      have n : a ≠ D := fun z => ha i xs e (z ▸ h1)
      exact ⟨a, vs, rfl, q1, q2, q3, by show upd S.Hi D o a = none; rw [upd_ne n]; exact q4, q5⟩
theorem Rep.kept (R : Rep (S.keep D o) G σ H st) (hi : S.Hi D = none) (hgi : S.Gi D = none) (hda : D ≠ S.da) (hca : D ≠ S.ca) (hdn : S.Hi S.da ≠ none ∧ S.Hi S.ca ≠ none) : Rep S G σ H st ∧ H D = some o ∧ G D = none ∧ Apart D σ st := by
  have hGD : G D = none := by
    cases e : G D with
    | none => rfl
    | some x =>
      rcases R.gn D x e with q | q
      · have q' : S.Gi D = some x := q
        rw [hgi] at q'; cases q'
      · have q' : upd S.Hi D o D = none := q
        rw [upd_same] at q'; cases q'
  have hH : H D = some o := R.hi D o (show upd S.Hi D o D = some o from upd_same) hda hca
  have ap : Apart D σ st := fun j ys e z => by
    obtain ⟨v, h1, a, vs, rfl, q1, q2, q3, q4, q5⟩ := R.sl j _ e
    rw [z] at h1
    cases h1
    have q' : upd S.Hi D o D = none := q4
    rw [upd_same] at q'; cases q'
  refine ⟨⟨⟨R.same, R.gi, fun a x e => ?_, fun a x e h1 h2 => ?_, R.dk, hdn, R.gd⟩, fun i s e => ?_, R.sep, R.len⟩, hH, hGD, ap⟩
  · have n : a ≠ D := fun z => by rw [z, hGD] at e; cases e
    rcases R.gn a x e with q | q
    · exact .inl q
    · have q' : upd S.Hi D o a = none := q
      rw [upd_ne n] at q'; exact .inr q'
  · have n : a ≠ D := fun z => by rw [z, hi] at e; cases e
    exact R.hi a x (show upd S.Hi D o a = some x by rw [upd_ne n]; exact e) h1 h2
  · obtain ⟨v, h1, h2⟩ := R.sl i s e
    refine ⟨v, h1, ?_⟩
    cases s with
    | val t => exact TR.keep.mpr h2
    | lst xs =>
      obtain ⟨a, vs, rfl, q1, q2, q3, q4, q5⟩ := h2
      have n : a ≠ D := fun z => ap i xs e (z ▸ h1)
      have q' : upd S.Hi D o a = none := q4
      rw [upd_ne n] at q'
      exact ⟨a, vs, rfl, q1, q2, q3, q', q5⟩
theorem wipeM_dk (st : M) : ∀ vs : List Nat, (st.wipe vs).dk = st.dk
  | [] => rfl
  | i :: vs => wipeM_dk st vs
theorem wipeM_len (st : M) : ∀ vs : List Nat, (st.wipe vs).ρ.length = st.ρ.length
  | [] => rfl
  | i :: vs => by show ((st.wipe vs).ρ.set i none).length = _; rw [List.length_set, wipeM_len st vs]
theorem wipeM_some (st : M) {i : Nat} {s : Sl} : ∀ {vs : List Nat}, (st.wipe vs).ρ[i]? = some (some s) → st.ρ[i]? = some (some s) ∧ i ∉ vs
  | [], h => ⟨h, by simp⟩
  | v :: vs, h => by
    have h' : ((st.wipe vs).ρ.set v none)[i]? = some (some s) := h
    by_cases hi : v = i
    · subst hi
      by_cases hv : v < (st.wipe vs).ρ.length
      · rw [List.getElem?_set_self hv] at h'; cases h'
      · rw [List.getElem?_eq_none (by simpa using hv)] at h'; cases h'
    · rw [List.getElem?_set_ne hi] at h'
      obtain ⟨h1, h2⟩ := wipeM_some st h'
      exact ⟨h1, by simp only [List.mem_cons, not_or]; exact ⟨fun e => hi e.symm, h2⟩⟩
theorem Rep.wipe (R : Rep S G σ H st) (vs : List Nat) : Rep S G (L2.wipe σ vs) H (st.wipe vs) := by
  have hr := R.weak (σ' := L2.wipe σ vs) (ρ' := (st.wipe vs).ρ) (by rw [wipeM_len, wipe_length]; exact R.len) fun i s e => by
    obtain ⟨h1, h2⟩ := wipeM_some st e
    exact ⟨h1, wipe_out h2⟩
  have e : st.wipe vs = { st with ρ := (st.wipe vs).ρ } := by
    have := wipeM_dk st vs
    cases h : st.wipe vs
    rw [h] at this
    cases this
    rfl
  rw [e]
  exact hr
theorem back_dk (old new : M) : ∀ vs : List Nat, (old.back new vs).dk = new.dk
  | [] => rfl
  | i :: vs => by
    unfold M.back
    split
    · exact back_dk old new vs
    · exact back_dk old new vs
theorem back_len (old new : M) : ∀ vs : List Nat, (old.back new vs).ρ.length = new.ρ.length
  | [] => rfl
  | i :: vs => by
    unfold M.back
    split
    · show ((old.back new vs).ρ.set i _).length = _
      rw [List.length_set, back_len old new vs]
    · show ((old.back new vs).ρ.set i _).length = _
      rw [List.length_set, back_len old new vs]
theorem back_some (old new : M) {i : Nat} {s : Sl} : ∀ {vs : List Nat}, (old.back new vs).ρ[i]? = some (some s) → (i ∈ vs ∧ ∃ t, s = .val t ∧ old.ρ[i]? = some (some s)) ∨ (i ∉ vs ∧ new.ρ[i]? = some (some s))
  | [], h => .inr ⟨by simp, h⟩
  | v :: vs, h => by
    unfold M.back at h
    by_cases hi : v = i
    · subst hi
      split at h
      · rename_i t e
        have h' : ((old.back new vs).ρ.set v (some (Sl.val t)))[v]? = some (some s) := h
        by_cases hv : v < (old.back new vs).ρ.length
        · rw [List.getElem?_set_self hv] at h'
          cases h'
          exact .inl ⟨List.mem_cons_self, t, rfl, e⟩
        · rw [List.getElem?_eq_none (by simpa using hv)] at h'; cases h'
      · have h' : ((old.back new vs).ρ.set v none)[v]? = some (some s) := h
        by_cases hv : v < (old.back new vs).ρ.length
        · rw [List.getElem?_set_self hv] at h'; cases h'
        · rw [List.getElem?_eq_none (by simpa using hv)] at h'; cases h'
    · have h' : (old.back new vs).ρ[i]? = some (some s) := by
        split at h
        · have h' : ((old.back new vs).ρ.set v (some (Sl.val _)))[i]? = some (some s) := h
          rw [List.getElem?_set_ne hi] at h'
          exact h'
        · have h' : ((old.back new vs).ρ.set v none)[i]? = some (some s) := h
          rw [List.getElem?_set_ne hi] at h'
          exact h'
      rcases back_some old new h' with ⟨h1, h2⟩ | ⟨h1, h2⟩
      · exact .inl ⟨List.mem_cons_of_mem _ h1, h2⟩
      · exact .inr ⟨by simp only [List.mem_cons, not_or]; exact ⟨fun e => hi e.symm, h1⟩, h2⟩
/-- behind a block, with the block's own slots as they were -/
theorem Rep.back {G' H' : Hp} {σ2 : L2.St} {st2 : M} {vs : List Nat} (R : Rep S G σ H st) (sm : Same G G') (R2 : Rep S G' σ2 H' st2) (hσ : L2.wipe σ2 vs = L2.wipe σ vs) : Rep S G' σ H' (st.back st2 vs) := by
  have out : ∀ j, j ∉ vs → σ2[j]? = σ[j]? := fun j hj => by
    have h1 := wipe_out (σ := σ2) hj
    have h2 := wipe_out (σ := σ) hj
    rw [← h1, ← h2, hσ]
  have hl : σ2.length = σ.length := by
    have h1 := wipe_length σ2 vs
    have h2 := wipe_length σ vs
    rw [← h1, ← h2, hσ]
  refine ⟨?_, fun i s e => ?_, fun i j a xs ys hij q1 q2 e1 e2 => ?_, by rw [back_len, R2.len, hl]⟩
  · rw [back_dk]; exact R2.toExt
  · rcases back_some st st2 e with ⟨h1, t, rfl, h2⟩ | ⟨h1, h2⟩
    · obtain ⟨v, h3, h4⟩ := R.sl i _ h2
      exact ⟨v, h3, TR.mono sm h4⟩
    · obtain ⟨v, h3, h4⟩ := R2.sl i _ h2
      exact ⟨v, (out i h1) ▸ h3, h4⟩
  · rcases back_some st st2 e1 with ⟨_, t, z, _⟩ | ⟨h1, h2⟩
    · cases z
    · rcases back_some st st2 e2 with ⟨_, t, z, _⟩ | ⟨h3, h4⟩
      · cases z
      · exact R2.sep i j a xs ys hij (by rw [out i h1]; exact q1) (by rw [out j h3]; exact q2) h2 h4
theorem apart_back {σ2 : L2.St} {st2 : M} {vs : List Nat} (h : Apart D σ2 st2) (hσ : L2.wipe σ2 vs = L2.wipe σ vs) : Apart D σ (st.back st2 vs) := fun j ys e z => by
  rcases back_some st st2 e with ⟨_, t, z', _⟩ | ⟨h1, h2⟩
  · cases z'
  · have h3 := wipe_out (σ := σ2) h1
    have h4 := wipe_out (σ := σ) h1
    refine h j ys h2 ?_
    rw [← h3, hσ, h4]
    exact z
theorem wipe_off {σ σ2 : L2.St} {vs ws : List Nat} (hw : ∀ i ∈ ws, i ∈ vs) (h : Off ws (L2.wipe σ vs) σ2) : L2.wipe σ2 vs = L2.wipe σ vs := by
  apply List.ext_getElem?
  intro j
  have hl : σ2.length = σ.length := by rw [h.1, wipe_length]
  by_cases hj : j ∈ vs
  · have none_at : ∀ (τ : L2.St) (us : List Nat), j ∈ us → (L2.wipe τ us)[j]? = if j < τ.length then some none else none := by
      intro τ us
      induction us with
      | nil => intro h; cases h
      | cons u us ih =>
        intro h
        show ((L2.wipe τ us).set u none)[j]? = _
        by_cases e : u = j
        · subst e
          by_cases hl : u < τ.length
          · rw [List.getElem?_set_self (by rw [wipe_length]; exact hl), if_pos hl]
          · rw [List.getElem?_eq_none (by rw [List.length_set, wipe_length]; omega), if_neg hl]
        · rw [List.getElem?_set_ne e]
          rcases List.mem_cons.mp h with z | z
          · exact absurd z.symm e
          · exact ih z
    rw [none_at σ2 vs hj, none_at σ vs hj, hl]
  · rw [wipe_out hj, wipe_out hj]
    have := h.2 j (fun z => hj (hw j z))
    rw [this, wipe_out hj]
end
/-! ### one clause -/
@[simp] def bYes : FB := fun st => some (true, st)
def DTs (X : Cx) (ifs : List Expr) (f : FB) : Prop := PTs X ifs (LiftB X.K f)
theorem pts_imp {X : Cx} {ifs : List Expr} {t t' : TT} (h : PTs X ifs t) (w : ∀ σ H Q, t' σ H Q → t σ H Q) : PTs X ifs t' := ⟨fun pins s σ H Q I q => h.run pins s σ H Q I (w σ H Q q)⟩
theorem dts_nil {X : Cx} : DTs X [] bYes := pts_imp pts_nil fun σ H Q ⟨S, G, st, t, st', hK, R, hf, q⟩ => by
  cases hf
  exact q G H (Same.refl G) R
theorem dts_one {X : Cx} {c : Expr} {f : FB} (h : DB X c f) : DTs X [c] f := pts_one h
def lcLoop (vs : List Nat) (g : FG) (tt : FB) (te : FV) : List T → M → List PyData → Option (List PyData × M)
  | [], st, acc => some (acc, st)
  | t :: ts, st, acc => (g t (st.wipe vs)).bind fun s1 => (tt s1).bind fun p => if p.1 = true then (te p.2).bind fun q => match q.1 with
      | .d x => lcLoop vs g tt te ts (st.back q.2 vs) (acc ++ [x])
      | _ => none
    else lcLoop vs g tt te ts (st.back p.2 vs) acc
@[simp] def lComp (it : FI) (vs : List Nat) (g : FG) (tt : FB) (te : FV) : FL := fun st => (it st).bind fun p => lcLoop vs g tt te p.1 p.2 []
section
variable {X : Cx} {elt tg iter : Expr} {ifs : List Expr} {scope : Scope} {own : List (Str × Nat)} {pos : Pos} {it : FI} {g : FG} {tt : FB} {te : FV} {ws : List Nat}
theorem lift_lc (hw : ∀ i ∈ ws, i ∈ own.map (·.2)) (σ : L2.St) (H : Hp) (Q : VK) (h : LiftL X.K (lComp it (own.map (·.2)) g tt te) σ H Q) : tLc (LiftI X.K it) (LiftG X.K ws g) (LiftB X.K tt) (LiftV X.K te) (own.map (·.2)) σ H Q := by
  obtain ⟨S, G, st, xs, st', hK, R, hf, q⟩ := h
  obtain ⟨⟨ts, st1⟩, h3, h4⟩ := obind hf
  refine ⟨S, G, st, ts, st1, hK, R, h3, fun J G1 H1 s1 R1 hJ D hD => ?_⟩
  have hgD : G1 D = none := R1.same.free hD
  have hiD : S.Hi D = none := R1.hnew hD
  have hgiD : S.Gi D = none := R1.gi.free hgD
  have hda : D ≠ S.da := fun z => by rw [z, R1.dk.1] at hD; cases hD
  have hca : D ≠ S.ca := fun z => by rw [z, R1.dk.2.1] at hD; cases hD
  generalize hvs : own.map (·.2) = vs at *
  refine ⟨fun i m H2 => m = ts.length - i ∧ i ≤ ts.length ∧ ∃ G2 st2 vacc acc, Same G1 G2 ∧ Rep S G2 σ H2 st2 ∧ H2 D = some (.lst vacc) ∧ DrAll S.K G2 vacc acc ∧ G2 D = none ∧ Apart D σ st2 ∧ acc.length ≤ i ∧ lcLoop vs g tt te (ts.drop i) st2 acc = some (xs, st'),
    ⟨_, rfl, Nat.zero_le _, G1, st1, [], [], Same.refl _, R1.newOwn hD _, upd_same, .nil, hgD, fresh_slot R1 hD, Nat.le_refl _, h4⟩, ?_⟩
  rintro i m H2 ⟨rfl, hle, G2, st2, vacc, acc, s2, R2, e2, d2, g2, ap2, la2, h5⟩
  have hJ2 := hJ.2 i H2 (s2.trans R2.same)
  by_cases hlt : i < ts.length
  · obtain ⟨go, yl⟩ := hJ2.1 hlt
    rw [List.drop_eq_getElem_cons hlt] at h5
    obtain ⟨st3, h6, h7⟩ := obind h5
    obtain ⟨⟨b, st4⟩, h8, h9⟩ := obind h7
    refine .inr ⟨go, fun H3 => ∃ G3 st3 vacc acc, Same G1 G3 ∧ Rep S G3 σ H3 st3 ∧ H3 D = some (.lst vacc) ∧ DrAll S.K G3 vacc acc ∧ G3 D = none ∧ Apart D σ st3 ∧ acc.length ≤ i + 1 ∧ lcLoop vs g tt te (ts.drop (i + 1)) st3 acc = some (xs, st'),
      fun H3 hN => ⟨ts.length - (i + 1), by omega, rfl, hlt, hN⟩, fun v H3 hy => ?_⟩
    obtain ⟨t, ht, hv⟩ := yl v H3 hy
    rw [List.getElem?_eq_getElem hlt] at ht
    cases ht
    -- the turn, from a heap in which the item may be read
    have turn : ∀ G3 H3, Same G2 G3 → Rep S G3 σ H3 st2 → H3 D = some (.lst vacc) → G3 D = none → TR S G3 v ts[i] → LiftG X.K ws g v (L2.wipe σ vs) H3 fun σ4 H4 => L2.wipe σ4 vs = L2.wipe σ vs ∧ LiftB X.K tt σ4 H4 fun b H5 =>
        if b = true then LiftV X.K te σ4 H5 fun y H6 => ∃ acc, H6 D = some (.lst acc) ∧ acc.length < sizeLine ∧ ∃ G3 st3 vacc acc', Same G1 G3 ∧ Rep S G3 σ (upd H6 D (.lst (acc ++ [y]))) st3 ∧ (upd H6 D (.lst (acc ++ [y]))) D = some (.lst vacc) ∧ DrAll S.K G3 vacc acc' ∧ G3 D = none ∧ Apart D σ st3 ∧ acc'.length ≤ i + 1 ∧ lcLoop vs g tt te (ts.drop (i + 1)) st3 acc' = some (xs, st')
        else ∃ G3 st3 vacc acc, Same G1 G3 ∧ Rep S G3 σ H5 st3 ∧ H5 D = some (.lst vacc) ∧ DrAll S.K G3 vacc acc ∧ G3 D = none ∧ Apart D σ st3 ∧ acc.length ≤ i + 1 ∧ lcLoop vs g tt te (ts.drop (i + 1)) st3 acc = some (xs, st') := by
      intro G3 H3 s3 R3 e3 g3 t3
      have Rk := (R3.wipe vs).keep e3 g3 hiD fun j ys e z => by
        obtain ⟨h1, h2⟩ := wipeM_some st2 e
        rw [wipe_out h2] at z
        exact ap2 j ys h1 z
      refine ⟨S.keep D (.lst vacc), G3, _, _, st3, hK, Rk, TR.keep.mp t3, h6, fun σ4 H4 R4 off => ?_⟩
      have hσ := wipe_off hw off
      refine ⟨hσ, S.keep D (.lst vacc), G3, st3, b, st4, hK, R4, h8, fun G5 H5 s5 R5 => ?_⟩
      cases b with
      | true =>
        simp only [if_true] at h9 ⊢
        obtain ⟨⟨t', st6⟩, h10, h11⟩ := obind h9
        refine ⟨S.keep D (.lst vacc), G5, st4, t', st6, hK, R5, h10, fun y G6 H6 s6 R6 t6 => ?_⟩
        obtain ⟨R7, e7, g7, ap7⟩ := R6.kept hiD hgiD hda hca R1.dn
        cases t' with
        | deck => cases h11
        | d x =>
          have hlen : vacc.length ≤ i := by rw [d2.length]; exact la2
          have hts := hJ.1
          refine ⟨vacc, e7, by omega, ?_⟩
          have s36 := s3.trans (s5.trans s6)
          have RB : Rep S G6 σ H6 (st2.back st6 vs) := Rep.back R3 (s5.trans s6) R7 hσ
          have apB := apart_back (σ := σ) (st := st2) ap7 hσ
          have dx : Dr S.K G6 y x := TR.keep.mpr t6
          have RW : Rep S G6 σ (upd H6 D (.lst (vacc ++ [y]))) (st2.back st6 vs) := by
            refine ⟨RB.toExt.own g7 hiD _, fun j s e => ?_, RB.sep, RB.len⟩
            obtain ⟨u, q1, q2⟩ := RB.sl j s e
            refine ⟨u, q1, ?_⟩
            cases s with
            | val t => exact q2
            | lst zs =>
              obtain ⟨a, us, rfl, z1, z2, z3, z4⟩ := q2
              have n : a ≠ D := fun z => apB j zs e (z ▸ q1)
              exact ⟨a, us, rfl, by rw [upd_ne n]; exact z1, z2, z3, z4⟩
          exact ⟨G6, _, vacc ++ [y], acc ++ [x], s2.trans s36, RW, upd_same, (d2.mono s36).append (.cons dx .nil), g7, apB, by simp; omega, h11⟩
      | false =>
        simp only [Bool.false_eq_true, if_false] at h9 ⊢
        obtain ⟨R7, e7, g7, ap7⟩ := R5.kept hiD hgiD hda hca R1.dn
        have RB : Rep S G5 σ H5 (st2.back st4 vs) := Rep.back R3 s5 R7 hσ
        have apB := apart_back (σ := σ) (st := st2) ap7 hσ
        exact ⟨G5, _, vacc, acc, s2.trans (s3.trans s5), RB, e7, d2.mono (s3.trans s5), g7, apB, by omega, h9⟩
    rcases hv with ⟨rfl, tv⟩ | ⟨p, o, hp, rfl, tv⟩
    · exact turn G2 H3 (Same.refl _) R2 e2 g2 (tv.mono s2)
    · have n1 : G1 p = none := (s2.trans R2.same).free hp
      have np : D ≠ p := fun z => by rw [← z, e2] at hp; cases hp
      refine turn (upd G2 p o) _ (R2.newSame hp o) (R2.new hp o) (by rw [upd_ne np]; exact e2) (by rw [upd_ne np]; exact g2) (tv.mono fun b x e => ?_)
      by_cases hb : b = p
      · rw [hb, upd_same] at e ⊢; exact e
      · rw [upd_ne hb] at e ⊢; exact s2 b x e
  · have hi' : i = ts.length := by omega
    subst hi'
    refine .inl ⟨hJ2.2 (Nat.le_refl _), ?_⟩
    rw [List.drop_length] at h5
    cases h5
    exact q D vacc G2 H2 (s1.trans s2) R2 e2 (by rw [d2.length]; exact Nat.le_trans la2 hJ.1) d2 g2 hiD ap2
theorem de_lc (hc : X.calm = true) (hN : X.N.Nodup) (hi : DI X tg iter it) (ok : BlkOk X.N X.env.scope scope own) (hw : ∀ i ∈ ws, i ∈ own.map (·.2))
    (hg : ∀ (s : Shared) (H : Hp) (C : Addr) (cl : List (Str × Addr)) (fp : List Addr), DG (X.blk s H scope (compEnvC scope cl C X.env) fp) tg ws g) (ht : ∀ (s : Shared) (H : Hp) (C : Addr) (cl : List (Str × Addr)) (fp : List Addr), DTs (X.blk s H scope (compEnvC scope cl C X.env) fp) ifs tt)
    (he : ∀ (s : Shared) (H : Hp) (C : Addr) (cl : List (Str × Addr)) (fp : List Addr), DV (X.blk s H scope (compEnvC scope cl C X.env) fp) elt te) (hs : ∀ x, foldedSetIterable iter X.env x = pure x := by intro _; rfl) :
    DE X (.ListComp elt [⟨tg, iter, ifs, 0⟩] scope pos) (lComp it (own.map (·.2)) g tt te) := 
  pe_imp (pe_lc (wi := LiftI X.K it) (g := LiftG X.K ws g) (tt := LiftB X.K tt) (te := LiftV X.K te) hc hN hi ok hg ht he hs) fun σ H Q h => lift_lc hw σ H Q h
/-- name = [..] on one line -/
theorem ds_setLc (i : Nat) {y : Str} {py spos : Pos} (hc : X.calm = true) (hN : X.N.Nodup) (hi : DI X tg iter it) (ok : BlkOk X.N X.env.scope scope own) (hw : ∀ i ∈ ws, i ∈ own.map (·.2))
    (hg : ∀ (s : Shared) (H : Hp) (C : Addr) (cl : List (Str × Addr)) (fp : List Addr), DG (X.blk s H scope (compEnvC scope cl C X.env) fp) tg ws g) (ht : ∀ (s : Shared) (H : Hp) (C : Addr) (cl : List (Str × Addr)) (fp : List Addr), DTs (X.blk s H scope (compEnvC scope cl C X.env) fp) ifs tt)
    (he : ∀ (s : Shared) (H : Hp) (C : Addr) (cl : List (Str × Addr)) (fp : List Addr), DV (X.blk s H scope (compEnvC scope cl C X.env) fp) elt te) (hy : X.N[i]? = some y := by rfl) (hyl : X.env.scope.names.lookup y = some .local := by rfl)
    (hsw : swapsWith (.ListComp elt [⟨tg, iter, ifs, 0⟩] scope pos) (some (.Name y py)) spos.line X.env = pure true := by exact sw_true rfl rfl rfl (by decide +kernel)) (hs : ∀ x, foldedSetIterable iter X.env x = pure x := by intro _; rfl) :
    DS X (.Assign [.Name y py] (.ListComp elt [⟨tg, iter, ifs, 0⟩] scope pos) spos) (sAsg (vOfL (lComp it (own.map (·.2)) g tt te)) (gSet i)) :=
  ps_imp (ps_setLc (wi := LiftI X.K it) (g := LiftG X.K ws g) (tt := LiftB X.K tt) (te := LiftV X.K te) hc hN hy hyl hsw hi ok hg ht he hs) fun D σ H ⟨S, G, st, fl, st', hK, R, hf, q⟩ => by
    obtain ⟨⟨t, st1⟩, h1, h2⟩ := obind hf
    obtain ⟨s2, h3, h4⟩ := obind h2
    obtain ⟨⟨xs, st3⟩, h5, h6⟩ := obind h1
    cases h6
    cases h4
    cases h3
    refine lift_lc hw σ H _ ⟨S, G, st, xs, _, hK, R, h5, fun p vs G' H' s R' hp hz hd hg hi hn => ?_⟩
    have s2 : Same G' (upd G' p (.lst vs)) := same_new hg
    exact q _ _ H' (s.trans s2) ((R'.freeze hp hg hi hn).set (show TR S _ (.ref p) (.d (.list xs)) from .lst (.of upd_same) hz (hd.mono s2)))
theorem ds_ownLc (i : Nat) {y : Str} {py spos : Pos} (hc : X.calm = true) (hN : X.N.Nodup) (hi : DI X tg iter it) (ok : BlkOk X.N X.env.scope scope own) (hw : ∀ i ∈ ws, i ∈ own.map (·.2))
    (hg : ∀ (s : Shared) (H : Hp) (C : Addr) (cl : List (Str × Addr)) (fp : List Addr), DG (X.blk s H scope (compEnvC scope cl C X.env) fp) tg ws g) (ht : ∀ (s : Shared) (H : Hp) (C : Addr) (cl : List (Str × Addr)) (fp : List Addr), DTs (X.blk s H scope (compEnvC scope cl C X.env) fp) ifs tt)
    (he : ∀ (s : Shared) (H : Hp) (C : Addr) (cl : List (Str × Addr)) (fp : List Addr), DV (X.blk s H scope (compEnvC scope cl C X.env) fp) elt te) (hy : X.N[i]? = some y := by rfl) (hyl : X.env.scope.names.lookup y = some .local := by rfl)
    (hsw : swapsWith (.ListComp elt [⟨tg, iter, ifs, 0⟩] scope pos) (some (.Name y py)) spos.line X.env = pure true := by exact sw_true rfl rfl rfl (by decide +kernel)) (hs : ∀ x, foldedSetIterable iter X.env x = pure x := by intro _; rfl) :
    DS X (.Assign [.Name y py] (.ListComp elt [⟨tg, iter, ifs, 0⟩] scope pos) spos) (sOwn i (lComp it (own.map (·.2)) g tt te)) :=
  ps_imp (ps_setLc (wi := LiftI X.K it) (g := LiftG X.K ws g) (tt := LiftB X.K tt) (te := LiftV X.K te) hc hN hy hyl hsw hi ok hg ht he hs) fun D σ H ⟨S, G, st, fl, st', hK, R, hf, q⟩ => by
    obtain ⟨⟨xs, st1⟩, h1, h2⟩ := obind hf
    cases h2
    exact lift_lc hw σ H _ ⟨S, G, st, xs, st1, hK, R, h1, fun p vs G' H' s R' hp hz hd hg hi hn => q G' _ H' s (R'.setOwn hp hz hd hg hi hn)⟩
end
end DL
set_option maxRecDepth 100000
set_option maxHeartbeats 4000000
/-! DL: comprehensions of two clauses; own lists; calls; defs -/
namespace DL
open PySem PySem.Spec PyProof.Rows L2
def lc2In (vs : List Nat) (g : FG) (tt : FB) (te : FV) : List T → M → List PyData → Option (List PyData × M)
  | [], st, acc => some (acc, st)
  | t :: ts, st, acc => (g t (st.wipe vs)).bind fun s1 => (tt s1).bind fun p => if p.1 = true then (te p.2).bind fun q => match q.1 with
      | .d x => if acc.length < 16777216 then lc2In vs g tt te ts (st.back q.2 vs) (acc ++ [x]) else none
      | _ => none
    else lc2In vs g tt te ts (st.back p.2 vs) acc
def lc2Loop (vs : List Nat) (g : FG) (tt : FB) (it1 : FI) (vs1 : List Nat) (g1 : FG) (tt1 : FB) (te : FV) : List T → M → List PyData → Option (List PyData × M)
  | [], st, acc => some (acc, st)
  | t :: ts, st, acc => (g t (st.wipe vs)).bind fun s1 => (tt s1).bind fun p => if p.1 = true then (it1 p.2).bind fun u => (lc2In vs1 g1 tt1 te u.1 u.2 acc).bind fun q => lc2Loop vs g tt it1 vs1 g1 tt1 te ts (st.back q.2 vs) q.1
    else lc2Loop vs g tt it1 vs1 g1 tt1 te ts (st.back p.2 vs) acc
@[simp] def lComp2 (it : FI) (vs : List Nat) (g : FG) (tt : FB) (it1 : FI) (vs1 : List Nat) (g1 : FG) (tt1 : FB) (te : FV) : FL := fun st => (it st).bind fun p => lc2Loop vs g tt it1 vs1 g1 tt1 te p.1 p.2 []
theorem itR_keep {S : SC} {D : Addr} {o : HO} {J : It} {G : Hp} {xs : List T} (h : ItR (S.keep D o) J G xs) : ItR S J G xs := by
  refine ⟨h.1, fun i H sm => ⟨fun hi => ?_, (h.2 i H sm).2⟩⟩
  obtain ⟨h1, h2⟩ := (h.2 i H sm).1 hi
  refine ⟨h1, fun v H' hy => ?_⟩
  obtain ⟨t, e, q⟩ := h2 v H' hy
  exact ⟨t, e, q.imp (fun ⟨a, b⟩ => ⟨a, TR.keep.mpr b⟩) fun ⟨p, o, a, b, c⟩ => ⟨p, o, a, b, TR.keep.mpr c⟩⟩
section
variable {X : Cx} {elt tg iter tg1 iter1 : Expr} {ifs ifs1 : List Expr} {scope : Scope} {own : List (Str × Nat)} {vs1 : List Nat} {pos : Pos} {it it1 : FI} {g g1 : FG} {tt tt1 : FB} {te : FV} {ws ws1 : List Nat}
/-- what holds of the list under way -/
def Way (S : SC) (G1 : Hp) (σ : L2.St) (D : Addr) (st : M) (acc : List PyData) (H : Hp) : Prop := ∃ G vacc, Same G1 G ∧ Rep S G σ H st ∧ H D = some (.lst vacc) ∧ DrAll S.K G vacc acc ∧ G D = none ∧ Apart D σ st ∧ acc.length ≤ 16777216
theorem Rep.writeApart {S : SC} {G H : Hp} {σ : L2.St} {st : M} {D : Addr} {o : HO} (R : Rep S G σ H st) (g : G D = none) (hi : S.Hi D = none) (ap : Apart D σ st) : Rep S G σ (upd H D o) st := by
  refine ⟨R.toExt.own g hi _, fun j s e => ?_, R.sep, R.len⟩
  obtain ⟨u, q1, q2⟩ := R.sl j s e
  refine ⟨u, q1, ?_⟩
  cases s with
  | val t => exact q2
  | lst zs =>
    obtain ⟨a, us, rfl, z1, z2, z3, z4⟩ := q2
    have n : a ≠ D := fun z => ap j zs e (z ▸ q1)
    exact ⟨a, us, rfl, by rw [upd_ne n]; exact z1, z2, z3, z4⟩
theorem lift_lc2 (hw : ∀ i ∈ ws, i ∈ own.map (·.2)) (hw1 : ∀ i ∈ ws1, i ∈ vs1) (σ : L2.St) (H : Hp) (Q : VK) (h : LiftL X.K (lComp2 it (own.map (·.2)) g tt it1 vs1 g1 tt1 te) σ H Q) :
    tLc2 (LiftI X.K it) (LiftG X.K ws g) (LiftB X.K tt) (LiftI X.K it1) (LiftG X.K ws1 g1) (LiftB X.K tt1) (LiftV X.K te) (own.map (·.2)) vs1 σ H Q := by
  obtain ⟨S, G, st, xs, st', hK, R, hf, q⟩ := h
  obtain ⟨⟨ts, st1⟩, h3, h4⟩ := obind hf
  refine ⟨S, G, st, ts, st1, hK, R, h3, fun J G1 H1 s1 R1 hJ D hD => ?_⟩
  have hgD : G1 D = none := R1.same.free hD
  have hiD : S.Hi D = none := R1.hnew hD
  have hgiD : S.Gi D = none := R1.gi.free hgD
  have hda : D ≠ S.da := fun z => by rw [z, R1.dk.1] at hD; cases hD
  have hca : D ≠ S.ca := fun z => by rw [z, R1.dk.2.1] at hD; cases hD
  generalize hvs : own.map (·.2) = vs at *
  refine ⟨fun i m H2 => m = ts.length - i ∧ i ≤ ts.length ∧ ∃ st2 acc, Way S G1 σ D st2 acc H2 ∧ lc2Loop vs g tt it1 vs1 g1 tt1 te (ts.drop i) st2 acc = some (xs, st'),
    ⟨_, rfl, Nat.zero_le _, st1, [], ⟨G1, [], Same.refl _, R1.newOwn hD _, upd_same, .nil, hgD, fresh_slot R1 hD, by decide⟩, h4⟩, ?_⟩
  rintro i m H2 ⟨rfl, hle, st2, acc, ⟨G2, vacc, s2, R2, e2, d2, g2, ap2, la2⟩, h5⟩
  have hJ2 := hJ.2 i H2 (s2.trans R2.same)
  by_cases hlt : i < ts.length
  · obtain ⟨go, yl⟩ := hJ2.1 hlt
    rw [List.drop_eq_getElem_cons hlt] at h5
    obtain ⟨st3, h6, h7⟩ := obind h5
    obtain ⟨⟨b, st4⟩, h8, h9⟩ := obind h7
    refine .inr ⟨go, fun H3 => ∃ st3 acc, Way S G1 σ D st3 acc H3 ∧ lc2Loop vs g tt it1 vs1 g1 tt1 te (ts.drop (i + 1)) st3 acc = some (xs, st'), fun H3 hN => ⟨ts.length - (i + 1), by omega, rfl, hlt, hN⟩, fun v H3 hy => ?_⟩
    obtain ⟨t, ht, hv⟩ := yl v H3 hy
    rw [List.getElem?_eq_getElem hlt] at ht
    cases ht
    obtain ⟨G3, s3, R3, e3, g3, t3⟩ : ∃ G3, Same G2 G3 ∧ Rep S G3 σ H3 st2 ∧ H3 D = some (.lst vacc) ∧ G3 D = none ∧ TR S G3 v ts[i] := by
      rcases hv with ⟨rfl, tv⟩ | ⟨p, o, hp, rfl, tv⟩
      · exact ⟨G2, Same.refl _, R2, e2, g2, tv.mono s2⟩
      · have n1 : G1 p = none := (s2.trans R2.same).free hp
        have np : D ≠ p := fun z => by rw [← z, e2] at hp; cases hp
        refine ⟨upd G2 p o, R2.newSame hp o, R2.new hp o, by rw [upd_ne np]; exact e2, by rw [upd_ne np]; exact g2, tv.mono fun b x e => ?_⟩
        by_cases hb : b = p
        · rw [hb, upd_same] at e ⊢; exact e
        · rw [upd_ne hb] at e ⊢; exact s2 b x e
    have Rk := (R3.wipe vs).keep e3 g3 hiD fun j ys e z => by
      obtain ⟨h1, h2⟩ := wipeM_some st2 e
      rw [wipe_out h2] at z
      exact ap2 j ys h1 z
    refine ⟨S.keep D (.lst vacc), G3, _, _, st3, hK, Rk, TR.keep.mp t3, h6, fun σ4 H4 R4 off => ?_⟩
    have hσ := wipe_off hw off
    refine ⟨hσ, S.keep D (.lst vacc), G3, st3, b, st4, hK, R4, h8, fun G5 H5 s5 R5 => ?_⟩
    cases b with
    | false =>
      simp only [Bool.false_eq_true, if_false] at h9 ⊢
      obtain ⟨R7, e7, g7, ap7⟩ := R5.kept hiD hgiD hda hca R1.dn
      exact ⟨_, acc, ⟨G5, vacc, s2.trans (s3.trans s5), Rep.back R3 s5 R7 hσ, e7, d2.mono (s3.trans s5), g7, apart_back (σ := σ) (st := st2) ap7 hσ, la2⟩, h9⟩
    | true =>
      simp only [if_true] at h9 ⊢
      obtain ⟨⟨us, st6⟩, h10, h11⟩ := obind h9
      obtain ⟨⟨acc8, st8⟩, h12, h13⟩ := obind h11
      refine ⟨S.keep D (.lst vacc), G5, st4, us, st6, hK, R5, h10, fun J1 G6 H6 s6 R6 hJ1 => ?_⟩
      obtain ⟨R7, e7, g7, ap7⟩ := R6.kept hiD hgiD hda hca R1.dn
      have hJ1' := itR_keep hJ1
      -- the inner loop, at the slots σ4
      refine ⟨fun j k H7 => k = us.length - j ∧ j ≤ us.length ∧ ∃ st7 acc7, Way S G6 σ4 D st7 acc7 H7 ∧ lc2In vs1 g1 tt1 te (us.drop j) st7 acc7 = some (acc8, st8), ⟨_, rfl, Nat.zero_le _, st6, acc, ⟨G6, vacc, Same.refl _, R7, e7, d2.mono (s3.trans (s5.trans s6)), g7, ap7, la2⟩, h12⟩, ?_⟩
      rintro j k H7 ⟨rfl, hle1, st7, acc7, ⟨G7, vacc7, s7, Rj, ej, dj, gj, apj, laj⟩, h14⟩
      have hJ3 := hJ1'.2 j H7 (s7.trans Rj.same)
      by_cases hlt1 : j < us.length
      · obtain ⟨go1, yl1⟩ := hJ3.1 hlt1
        rw [List.drop_eq_getElem_cons hlt1] at h14
        obtain ⟨st9, h15, h16⟩ := obind h14
        obtain ⟨⟨b1, st10⟩, h17, h18⟩ := obind h16
        refine .inr ⟨go1, fun H8 => ∃ st7 acc7, Way S G6 σ4 D st7 acc7 H8 ∧ lc2In vs1 g1 tt1 te (us.drop (j + 1)) st7 acc7 = some (acc8, st8), fun H8 hN => ⟨us.length - (j + 1), by omega, rfl, hlt1, hN⟩, fun v1 H8 hy1 => ?_⟩
        obtain ⟨t1, ht1, hv1⟩ := yl1 v1 H8 hy1
        rw [List.getElem?_eq_getElem hlt1] at ht1
        cases ht1
        obtain ⟨G8, s8, R8, e8, g8, t8⟩ : ∃ G8, Same G7 G8 ∧ Rep S G8 σ4 H8 st7 ∧ H8 D = some (.lst vacc7) ∧ G8 D = none ∧ TR S G8 v1 us[j] := by
          rcases hv1 with ⟨rfl, tv⟩ | ⟨p, o, hp, rfl, tv⟩
          · exact ⟨G7, Same.refl _, Rj, ej, gj, tv.mono s7⟩
          · have n1 : G6 p = none := (s7.trans Rj.same).free hp
            have np : D ≠ p := fun z => by rw [← z, ej] at hp; cases hp
            refine ⟨upd G7 p o, Rj.newSame hp o, Rj.new hp o, by rw [upd_ne np]; exact ej, by rw [upd_ne np]; exact gj, tv.mono fun b x e => ?_⟩
            by_cases hb : b = p
            · rw [hb, upd_same] at e ⊢; exact e
            · rw [upd_ne hb] at e ⊢; exact s7 b x e
        have Rk1 := (R8.wipe vs1).keep e8 g8 hiD fun l ys e z => by
          obtain ⟨h1, h2⟩ := wipeM_some st7 e
          rw [wipe_out h2] at z
          exact apj l ys h1 z
        refine ⟨S.keep D (.lst vacc7), G8, _, _, st9, hK, Rk1, TR.keep.mp t8, h15, fun σ9 H9 R9 off9 => ?_⟩
        have hσ9 := wipe_off hw1 off9
        refine ⟨hσ9, S.keep D (.lst vacc7), G8, st9, b1, st10, hK, R9, h17, fun G10 H10 s10 R10 => ?_⟩
        cases b1 with
        | false =>
          simp only [Bool.false_eq_true, if_false] at h18 ⊢
          obtain ⟨R11, e11, g11, ap11⟩ := R10.kept hiD hgiD hda hca R1.dn
          exact ⟨_, acc7, ⟨G10, vacc7, s7.trans (s8.trans s10), Rep.back R8 s10 R11 hσ9, e11, dj.mono (s8.trans s10), g11, apart_back (σ := σ4) (st := st7) ap11 hσ9, laj⟩, h18⟩
        | true =>
          simp only [if_true] at h18 ⊢
          obtain ⟨⟨t', st12⟩, h19, h20⟩ := obind h18
          refine ⟨S.keep D (.lst vacc7), G10, st10, t', st12, hK, R10, h19, fun y G12 H12 s12 R12 t12 => ?_⟩
          obtain ⟨R13, e13, g13, ap13⟩ := R12.kept hiD hgiD hda hca R1.dn
          cases t' with
          | deck => cases h20
          | d x =>
            have h20' : (if acc7.length < 16777216 then lc2In vs1 g1 tt1 te (us.drop (j + 1)) (st7.back st12 vs1) (acc7 ++ [x]) else none) = some (acc8, st8) := h20
            split at h20'
            · rename_i hz
              have s812 := s8.trans (s10.trans s12)
              refine ⟨vacc7, e13, by rw [dj.length, sizeLine_eq]; exact hz, ?_⟩
              have RB : Rep S G12 σ4 H12 (st7.back st12 vs1) := Rep.back R8 (s10.trans s12) R13 hσ9
              have apB := apart_back (σ := σ4) (st := st7) ap13 hσ9
              have dx : Dr S.K G12 y x := TR.keep.mpr t12
              exact ⟨_, acc7 ++ [x], ⟨G12, vacc7 ++ [y], s7.trans s812, RB.writeApart g13 hiD apB, upd_same, (dj.mono s812).append (.cons dx .nil), g13, apB, by simp; omega⟩, h20'⟩
            · cases h20'
      · have hj : j = us.length := by omega
        subst hj
        refine .inl ⟨hJ3.2 (Nat.le_refl _), ?_⟩
        rw [List.drop_length] at h14
        cases h14
        have sz := s3.trans (s5.trans (s6.trans s7))
        exact ⟨_, _, ⟨G7, vacc7, s2.trans sz, Rep.back R3 (s5.trans (s6.trans s7)) Rj hσ, ej, dj, gj, apart_back (σ := σ) (st := st2) apj hσ, laj⟩, h13⟩
  · have hi' : i = ts.length := by omega
    subst hi'
    refine .inl ⟨hJ2.2 (Nat.le_refl _), ?_⟩
    rw [List.drop_length] at h5
    cases h5
    exact q D vacc G2 H2 (s1.trans s2) R2 e2 (by rw [d2.length, sizeLine_eq]; exact la2) d2 g2 hiD ap2
theorem de_lc2 (hc : X.calm = true) (hN : X.N.Nodup) (hi : DI X tg iter it) (ok : BlkOk X.N X.env.scope scope own) (hw : ∀ i ∈ ws, i ∈ own.map (·.2)) (hw1 : ∀ i ∈ ws1, i ∈ vs1) (hv : ∀ i ∈ vs1, i ∈ own.map (·.2))
    (hg : ∀ (s : Shared) (H : Hp) (C : Addr) (cl : List (Str × Addr)) (fp : List Addr), DG (X.blk s H scope (compEnvC scope cl C X.env) fp) tg ws g) (ht : ∀ (s : Shared) (H : Hp) (C : Addr) (cl : List (Str × Addr)) (fp : List Addr), DTs (X.blk s H scope (compEnvC scope cl C X.env) fp) ifs tt)
    (hi1 : ∀ (s : Shared) (H : Hp) (C : Addr) (cl : List (Str × Addr)) (fp : List Addr), DI (X.blk s H scope (compEnvC scope cl C X.env) fp) tg1 iter1 it1)
    (hg1 : ∀ (s : Shared) (H : Hp) (C : Addr) (cl : List (Str × Addr)) (fp : List Addr), DG (X.blk s H scope (compEnvC scope cl C X.env) fp) tg1 ws1 g1) (ht1 : ∀ (s : Shared) (H : Hp) (C : Addr) (cl : List (Str × Addr)) (fp : List Addr), DTs (X.blk s H scope (compEnvC scope cl C X.env) fp) ifs1 tt1)
    (he : ∀ (s : Shared) (H : Hp) (C : Addr) (cl : List (Str × Addr)) (fp : List Addr), DV (X.blk s H scope (compEnvC scope cl C X.env) fp) elt te) (hs : ∀ x, foldedSetIterable iter X.env x = pure x := by intro _; rfl) (hs1 : ∀ env x, foldedSetIterable iter1 env x = pure x := by intro _ _; rfl) :
    DE X (.ListComp elt [⟨tg, iter, ifs, 0⟩, ⟨tg1, iter1, ifs1, 0⟩] scope pos) (lComp2 it (own.map (·.2)) g tt it1 vs1 g1 tt1 te) :=
  pe_imp (pe_lc2 (wi := LiftI X.K it) (g := LiftG X.K ws g) (tt := LiftB X.K tt) (wi1 := LiftI X.K it1) (g1 := LiftG X.K ws1 g1) (tt1 := LiftB X.K tt1) (te := LiftV X.K te) hc hN hi ok hv hg ht hi1 hg1 ht1 he hs hs1) fun σ H Q h => lift_lc2 hw hw1 σ H Q h
end
/-! ### own lists -/
@[simp] def M.own? (st : M) (i : Nat) : Option (List PyData) := match st.ρ[i]? with
  | some (some (.lst xs)) => some xs
  | _ => none
theorem M.own_iff {st : M} {i : Nat} {xs : List PyData} (h : st.own? i = some xs) : st.ρ[i]? = some (some (.lst xs)) := by
  unfold M.own? at h
  split at h
  · rename_i e
    cases h
    exact e
  · cases h
/-- x.append(e) as a statement -/
@[simp] def sAppend (i : Nat) (f : FV) : FS := fun st => (st.own? i).bind fun _ => (f st).bind fun p => match p.1 with
  | .d x => (p.2.own? i).bind fun xs => if xs.length < 16777216 then some (.nx, p.2.setL i (xs ++ [x])) else none
  | _ => none
/-- x.pop() -/
@[simp] def vPop (i : Nat) : FV := fun st => (st.own? i).bind fun xs => (xs[xs.length - 1]?).bind fun y => some (.d y, st.setL i xs.dropLast)
/-- x.pop(e) -/
@[simp] def vPopAt (i : Nat) (f : FV) : FV := fun st => (st.own? i).bind fun _ => (f st).bind fun p => match p.1 with
  | .d (.int k) => (p.2.own? i).bind fun xs => (ixN xs.length k).bind fun j => (xs[j]?).bind fun y => some (.d y, p.2.setL i (xs.eraseIdx j))
  | _ => none
/-- the list in a slot, looked at while nothing else happens -/
@[simp] def vPeek (i : Nat) : FV := fun st => (st.own? i).bind fun xs => some (.d (.list xs), st)
/-- the list in a slot, never changed again -/
@[simp] def vFrz (i : Nat) : FV := fun st => (st.own? i).bind fun xs => some (.d (.list xs), st.set i (.d (.list xs)))
section
variable {X : Cx} {e : Expr} {f : FV} {pos p apos cpos : Pos} {x : Str}
theorem Rep.freezeSlot {S : SC} {G H : Hp} {σ : L2.St} {st : M} (R : Rep S G σ H st) {i : Nat} {a : Addr} {vs : List V} {xs : List PyData} (hv : σ[i]? = some (some (.ref a))) (hr : st.ρ[i]? = some (some (.lst xs))) (ha : H a = some (.lst vs)) (hz : vs.length ≤ sizeLine) (hd : DrAll S.K G vs xs) (hg : G a = none) (hi : S.Hi a = none) :
    Same G (upd G a (.lst vs)) ∧ Rep S (upd G a (.lst vs)) σ H (st.set i (.d (.list xs))) ∧ TR S (upd G a (.lst vs)) (.ref a) (.d (.list xs)) := by
  have s2 : Same G (upd G a (.lst vs)) := same_new hg
  have tv : TR S (upd G a (.lst vs)) (.ref a) (.d (.list xs)) := Dr.lst (.of upd_same) hz (hd.mono s2)
  -- the slot forgotten, the list frozen, the slot stored again
  have R1 : Rep S G σ H { st with ρ := st.ρ.set i none } := R.weak (by simpa using R.len) fun j s e => by
    by_cases hj : i = j
    · subst hj
      have hlt : i < st.ρ.length := (List.getElem?_eq_some_iff.mp hr).1
      rw [List.getElem?_set_self hlt] at e
      cases e
    · rw [List.getElem?_set_ne hj] at e
      exact ⟨e, rfl⟩
  have R2 : Rep S (upd G a (.lst vs)) σ H { st with ρ := st.ρ.set i none } := R1.freeze ha hg hi fun j ys e z => by
    by_cases hj : i = j
    · subst hj
      have hlt : i < st.ρ.length := (List.getElem?_eq_some_iff.mp hr).1
      rw [List.getElem?_set_self hlt] at e
      cases e
    · rw [List.getElem?_set_ne hj] at e
      exact R.sep i j a _ _ hj hv z hr e
  have R3 := R2.set (i := i) tv
  have e1 : σ.set i (some (.ref a)) = σ := List.ext_getElem? fun j => by
    by_cases hj : i = j
    · subst hj
      have hlt : i < σ.length := (List.getElem?_eq_some_iff.mp hv).1
      rw [List.getElem?_set_self hlt, hv]
    · rw [List.getElem?_set_ne hj]
  rw [e1] at R3
  have e2 : ({ ρ := (st.ρ.set i none).set i (some (.val (.d (.list xs)))), dk := st.dk } : M) = st.set i (.d (.list xs)) := by
    simp [M.set, List.set_set]
  refine ⟨s2, ?_, tv⟩
  rw [← e2]
  exact R3
theorem DrAll.dropLast {K : PySem.W.Frag} {G : Hp} {vs : List V} {ds : List PyData} (h : DrAll K G vs ds) : DrAll K G vs.dropLast ds.dropLast := by
  rw [List.dropLast_eq_take, List.dropLast_eq_take, h.length]
  exact h.take _
theorem DrAll.eraseIdx {K : PySem.W.Frag} {G : Hp} : ∀ {vs : List V} {ds : List PyData} (k : Nat), DrAll K G vs ds → DrAll K G (vs.eraseIdx k) (ds.eraseIdx k)
  | _, _, _, .nil => .nil
  | _, _, 0, .cons _ t => t
  | _, _, k + 1, .cons h t => .cons h (DrAll.eraseIdx k t)
theorem own_at {S : SC} {G H : Hp} {σ : L2.St} {st : M} (R : Rep S G σ H st) {i : Nat} {xs : List PyData} (h : st.own? i = some xs) : ∃ a vs, σ[i]? = some (some (.ref a)) ∧ H a = some (.lst vs) ∧ DrAll S.K G vs xs ∧ G a = none ∧ S.Hi a = none ∧ vs.length ≤ sizeLine := by
  obtain ⟨v, h1, a, vs, rfl, q⟩ := R.sl i _ (M.own_iff h)
  exact ⟨a, vs, h1, q⟩
theorem ds_append (i : Nat) {q : Pos} (he : DV X e f) (hN : X.N[i]? = some x := by rfl) (hv : Vis X.env.scope x := by first | exact Or.inl rfl | exact Or.inr (Or.inl rfl) | exact Or.inr (Or.inr rfl)) (hd : (x == ("__debug__" : Str)) = false := by decide) (hcd : (x == ("__classdict__" : Str)) = false := by decide)
    (hs1 : starEach [e] X.env = (false, eval e X.env) :: starEach [] X.env := by rfl) (hbase : attributeBase (.Name x p) "append" X.env (eval (.Name x p) X.env) = eval (.Name x p) X.env := by rfl)
    (hfew : ((backTo cpos (starEach [e] X.env)).all (fun x => !x.1) && (backToKw cpos (keywordEach [] X.env)).all (fun x => x.1.isSome) && decide ([e].length + ([] : List Keyword).length + (if ([] : List Keyword).isEmpty then 0 else 1) < 30)) = true := by rfl)
    (hline : (apos.endLine == cpos.line) = true := by rfl) (hplain : (backTo cpos (starEach [] X.env)).any (·.1) = false := by rfl) (hsw : swapsWith (.Call (.Attribute (.Name x p) "append" apos) [e] [] cpos) none q.line X.env = pure false := by rfl) :
    DS X (.Expr (.Call (.Attribute (.Name x p) "append" apos) [e] [] cpos) q) (sAppend i f) :=
  ps_imp (ps_expr (pe_bm PySem.F.plainAttrs_list PySem.F.slot_list_append PySem.F.type_list_append mt_append (pe_var hN hv hd hcd) (pa_cons he pa_nil hs1) hbase hfew hline hs1 hplain) hsw) fun D σ H ⟨S, G, st, fl, st', hK, R, hf, q⟩ => by
    obtain ⟨xs0, h0, hf⟩ := obind hf
    obtain ⟨⟨t, st1⟩, h1, h2⟩ := obind hf
    obtain ⟨a, vs0, ha, hH0, _⟩ := own_at R h0
    cases t with
    | deck => cases h2
    | d y =>
      obtain ⟨xs, h3, h4⟩ := obind h2
      split at h4
      · rename_i hz
        cases h4
        refine ⟨.ref a, ha, .inl ⟨rfl, vs0, .of hH0⟩, S, G, st, _, st1, hK, R, h1, fun v G1 H1 s1 R1 t1 => ?_⟩
        obtain ⟨b, vs, hb, hH, hd, hg, hi, _⟩ := own_at R1 h3
        rw [ha] at hb
        cases hb
        have hz' : vs.length < 16777216 := by rw [hd.length]; exact hz
        refine ⟨a, vs, v, rfl, rfl, hH, by rw [sizeLine_eq]; exact hz', ?_⟩
        exact q G1 σ _ s1 (R1.write ha (M.own_iff h3) (hd.append (.cons t1 .nil)) (by rw [List.length_append, sizeLine_eq]; simp; omega))
      · cases h4
theorem dv_pop (i : Nat) (hN : X.N[i]? = some x := by rfl) (hv : Vis X.env.scope x := by first | exact Or.inl rfl | exact Or.inr (Or.inl rfl) | exact Or.inr (Or.inr rfl)) (hd : (x == ("__debug__" : Str)) = false := by decide) (hcd : (x == ("__classdict__" : Str)) = false := by decide)
    (hbase : attributeBase (.Name x p) "pop" X.env (eval (.Name x p) X.env) = eval (.Name x p) X.env := by rfl) (hline : (apos.endLine == cpos.line) = true := by rfl) : DV X (.Call (.Attribute (.Name x p) "pop" apos) [] [] cpos) (vPop i) :=
  pe_imp (pe_bm0 PySem.F.plainAttrs_list PySem.F.slot_list_pop PySem.F.type_list_pop mt_pop (pe_var hN hv hd hcd) hbase hline) fun σ H Q ⟨S, G, st, t, st', hK, R, hf, q⟩ => by
    obtain ⟨xs, h1, hf⟩ := obind hf
    obtain ⟨y, h2, hf⟩ := obind hf
    cases hf
    obtain ⟨a, vs, ha, hH, hd, hg, hi, hz⟩ := own_at R h1
    obtain ⟨v, h3, h4⟩ := hd.get h2
    refine ⟨.ref a, ha, .inl ⟨rfl, vs, .of hH⟩, a, vs, v, rfl, rfl, hH, by rw [hd.length]; exact h3, ?_⟩
    exact q v G _ (Same.refl G) (R.write ha (M.own_iff h1) hd.dropLast (by rw [List.length_dropLast]; omega)) h4
theorem dv_popAt (i : Nat) (he : DV X e f) (hN : X.N[i]? = some x := by rfl) (hv : Vis X.env.scope x := by first | exact Or.inl rfl | exact Or.inr (Or.inl rfl) | exact Or.inr (Or.inr rfl)) (hd : (x == ("__debug__" : Str)) = false := by decide) (hcd : (x == ("__classdict__" : Str)) = false := by decide)
    (hs1 : starEach [e] X.env = (false, eval e X.env) :: starEach [] X.env := by rfl) (hbase : attributeBase (.Name x p) "pop" X.env (eval (.Name x p) X.env) = eval (.Name x p) X.env := by rfl)
    (hfew : ((backTo cpos (starEach [e] X.env)).all (fun x => !x.1) && (backToKw cpos (keywordEach [] X.env)).all (fun x => x.1.isSome) && decide ([e].length + ([] : List Keyword).length + (if ([] : List Keyword).isEmpty then 0 else 1) < 30)) = true := by rfl)
    (hline : (apos.endLine == cpos.line) = true := by rfl) (hplain : (backTo cpos (starEach [] X.env)).any (·.1) = false := by rfl) : DV X (.Call (.Attribute (.Name x p) "pop" apos) [e] [] cpos) (vPopAt i f) :=
  pe_imp (pe_bm PySem.F.plainAttrs_list PySem.F.slot_list_pop PySem.F.type_list_pop mt_popAt (pe_var hN hv hd hcd) (pa_cons he pa_nil hs1) hbase hfew hline hs1 hplain) fun σ H Q ⟨S, G, st, t, st', hK, R, hf, q⟩ => by
    obtain ⟨xs0, h0, hf⟩ := obind hf
    obtain ⟨⟨t, st1⟩, h1, h2⟩ := obind hf
    obtain ⟨a, vs0, ha, hH0, _⟩ := own_at R h0
    cases t with
    | deck => cases h2
    | d y =>
      cases y with
      | int k =>
        obtain ⟨xs, h3, h4⟩ := obind h2
        obtain ⟨j, h5, h6⟩ := obind h4
        obtain ⟨y, h7, h8⟩ := obind h6
        cases h8
        refine ⟨.ref a, ha, .inl ⟨rfl, vs0, .of hH0⟩, S, G, st, _, st1, hK, R, h1, fun v G1 H1 s1 R1 t1 => ?_⟩
        obtain ⟨b, vs, hb, hH, hd, hg, hi, hz⟩ := own_at R1 h3
        rw [ha] at hb
        cases hb
        obtain ⟨w, h9, h10⟩ := hd.get h7
        rw [← hd.length] at h5
        obtain ⟨z1, z2, z3, z4⟩ := ixN_seq h5
        have hsl := sizeLine_eq
        rw [t1.int]
        refine ⟨a, vs, k, j, w, rfl, rfl, hH, by omega, by omega, z1, h9, ?_⟩
        exact q w G1 _ s1 (R1.write ha (M.own_iff h3) (hd.eraseIdx j) (by have := List.length_eraseIdx_le vs j; omega)) h10
      | _ => cases h2
theorem dv_frz (i : Nat) (hN : X.N[i]? = some x := by rfl) (hv : Vis X.env.scope x := by first | exact Or.inl rfl | exact Or.inr (Or.inl rfl) | exact Or.inr (Or.inr rfl)) (hd : (x == ("__debug__" : Str)) = false := by decide)
    (hcd : (x == ("__classdict__" : Str)) = false := by decide) : DV X (.Name x pos) (vFrz i) := pe_imp (pe_var hN hv hd hcd) fun σ H Q ⟨S, G, st, t, st', hK, R, hf, q⟩ => by
  obtain ⟨xs, h1, hf⟩ := obind hf
  cases hf
  obtain ⟨a, vs, ha, hH, hd, hg, hi, hz⟩ := own_at R h1
  obtain ⟨s2, R2, tv⟩ := R.freezeSlot ha (M.own_iff h1) hH hz hd hg hi
  exact ⟨.ref a, ha, q _ _ H s2 R2 tv⟩
end
/-! ### calls of defs -/
section
variable {P : Program} {w : World} {K : PySem.W.Frag} {mg : Str → Option Value} {base : Heap}
abbrev FF := List T → Dk → Option (T × Dk)
/-- what a def promises: from arguments that stand for ts it hands back what F tells -/
def spD (K : PySem.W.Frag) (n : Nat) (F : FF) : Sp := fun vs H Q _ => ∃ (S : SC) (ts : List T) (dk : Dk) (t : T) (dk' : Dk), S.K = K ∧ S.Hi = H ∧ TRs S S.Gi vs ts ∧ ts.length = n ∧ Ext S S.Gi H dk ∧ F ts dk = some (t, dk') ∧
  ∀ v G' H', Ext S G' H' dk' → TR S G' v t → Q v H'
def FnD (P : Program) (w : World) (K : PySem.W.Frag) (mg : Str → Option Value) (base : Heap) (k : Nat) (f : Addr) (fd : FuncData) (ps : List Str) (F : FF) : Prop := FnG P w K mg base CX0 k f fd ps (spD K ps.length F)
theorem Ext.refl {S : SC} {G H : Hp} {dk : Dk} (R : Ext S G H dk) : Ext { S with Gi := G, Hi := H } G H dk :=
  ⟨R.same, Same.refl G, fun a o e => .inl e, fun a o e _ _ => e, R.dk, ⟨by show H S.da ≠ none; rw [R.dk.1]; simp, by show H S.ca ≠ none; rw [R.dk.2.1]; simp⟩, R.gd⟩
/-- behind a call -/
theorem Rep.call {S : SC} {G H : Hp} {σ : L2.St} {st : M} (R : Rep S G σ H st) {G' H' : Hp} {dk' : Dk} (E : Ext { S with Gi := G, Hi := H } G' H' dk') : Same G G' ∧ Rep S G' σ H' { st with dk := dk' } := by
  have s2 : Same G G' := E.gi
  refine ⟨s2, ⟨E.same, R.gi.trans s2, fun a o e => ?_, fun a o e h1 h2 => E.hi a o (R.hi a o e h1 h2) h1 h2, E.dk, R.dn, E.gd⟩, fun i s e => ?_, R.sep, R.len⟩
  · rcases E.gn a o e with q | q
    · exact R.gn a o q
    · exact .inr (R.hnew q)
  · obtain ⟨v, h1, h2⟩ := R.sl i s e
    refine ⟨v, h1, ?_⟩
    cases s with
    | val t => exact TR.mono s2 h2
    | lst xs =>
      obtain ⟨a, vs, rfl, q1, q2, q3, q4, q5⟩ := h2
      have hd : a ≠ S.da := fun z => R.dn.1 (z ▸ q4)
      have hc : a ≠ S.ca := fun z => R.dn.2 (z ▸ q4)
      refine ⟨a, vs, rfl, E.hi a _ q1 hd hc, q2.mono s2, ?_, q4, q5⟩
      cases e' : G' a with
      | none => rfl
      | some o =>
        rcases E.gn a o e' with q | q
        · have q' : G a = some o := q
          rw [q3] at q'; cases q'
        · have q' : H a = none := q
          rw [q1] at q'; cases q'
theorem TRs.shift {S : SC} {G : Hp} {Gi Hi : Hp} : ∀ {vs : List V} {ts : List T}, TRs S G vs ts → TRs { S with Gi := Gi, Hi := Hi } G vs ts
  | _, _, .nil => .nil
  | _, _, .cons (t := .d _) h t => .cons h t.shift
  | _, _, .cons (t := .deck) h t => .cons h t.shift
theorem TR.unshift {S : SC} {G : Hp} {Gi Hi : Hp} {v : V} : ∀ {t : T}, TR { S with Gi := Gi, Hi := Hi } G v t → TR S G v t
  | .d _, h => h
  | .deck, h => h
end
@[simp] def vDef (f : FA) (n : Nat) (F : FF) : FV := fun st => (f st).bind fun p => if p.1.length = n then (F p.1 p.2.dk).bind fun q => some (q.1, { p.2 with dk := q.2 }) else none
section
variable {X : Cx} {k : Nat} {f : Addr} {fd : FuncData} {ps : List Str} {F : FF} {x : Str} {p pos : Pos} {e : Expr} {es : List Expr} {fa fk : FA}
theorem sp_of {S : SC} {G H : Hp} {σ : L2.St} {st : M} {vs : List V} {ts : List T} {n : Nat} {t : T} {dk' : Dk} {Q : VK} {E : XK} {K : PySem.W.Frag} (hK : S.K = K) (R : Rep S G σ H st) (tv : TRs S G vs ts) (hl : ts.length = n) (hF : F ts st.dk = some (t, dk'))
    (q : ∀ v G' H', Same G G' → Rep S G' σ H' { st with dk := dk' } → TR S G' v t → Q v H') : spD K n F vs H Q E :=
  ⟨{ S with Gi := G, Hi := H }, ts, st.dk, t, dk', hK, rfl, tv.shift, hl, R.toExt.refl, hF, fun v G' H' E' t' => let ⟨s2, R2⟩ := R.call E'; q v G' H' s2 R2 t'.unshift⟩
theorem dv_call {n : Nat} (Fn : FnD X.prog X.w X.K X.mg X.base k f fd ps F) (hgd : X.A.guards = some []) (hr : Room k X.A) (hg : Gl X x) (hm : X.mg x = some (.ref f)) (hk : PySem.W.keepIn X.K (.ref f) = true) (hb : Binds X.K fd ps [])
    (ha : DA X (e :: es) fa) (hnp : ps.length = n := by rfl) (hdb : (x == ("__debug__" : Str)) = false := by decide) (he : starEach (e :: es) X.env = (false, eval e X.env) :: starEach es X.env := by rfl) (hpl : (backTo pos (starEach es X.env)).any (·.1) = false := by rfl) :
    DV X (.Call (.Name x p) (e :: es) [] pos) (vDef fa n F) := by
  subst hnp
  exact pe_imp (pe_callG Fn hgd hr hg hm hk hb pass0 ha hdb he hpl) fun σ H Q ⟨S, G, st, t, st', hK, R, hf, q⟩ => by
    obtain ⟨⟨ts, st1⟩, h1, h2⟩ := obind hf
    split at h2
    · rename_i hl
      obtain ⟨⟨t', dk'⟩, h3, h4⟩ := obind h2
      cases h4
      exact ⟨S, G, st, ts, st1, hK, R, h1, fun vs G1 H1 s1 R1 t1 => sp_of hK R1 t1 hl h3 fun v G2 H2 s2 R2 t2 => q v G2 H2 (s1.trans s2) R2 t2⟩
    · cases h2
/-- f(k = v, ..): order tells where each keyword's value stands among the parameters -/
def DK (X : Cx) (kws : List Keyword) (f : FA) : Prop := PK X kws (LiftA X.K f)
theorem pk_imp {kws : List Keyword} {t t' : TA} (h : PK X kws t) (w : ∀ σ H Q, t' σ H Q → t σ H Q) : PK X kws t' := ⟨fun pos pins s σ H Q I q => h.run pos pins s σ H Q I (w σ H Q q)⟩
theorem dk_nil : DK X [] aNil := pk_imp pk_nil fun σ H Q ⟨S, G, st, t, st', hK, R, hf, q⟩ => by
  cases hf
  exact q [] G H (Same.refl G) R .nil
theorem dk_cons {kws : List Keyword} {nm : Option Str} {kpos : Pos} {f : FV} {g : FA} (ha : DV X e f) (hr : DK X kws g) : DK X (⟨nm, e, kpos⟩ :: kws) (aCons f g) := pk_imp (pk_cons ha hr) fun σ H Q ⟨S, G, st, t, st', hK, R, hf, q⟩ => by
  obtain ⟨⟨x, st1⟩, h1, h2⟩ := obind hf
  obtain ⟨⟨xs, st2⟩, h3, h4⟩ := obind h2
  cases h4
  exact ⟨S, G, st, x, st1, hK, R, h1, fun v G1 H1 s1 R1 t1 => ⟨S, G1, st1, xs, _, hK, R1, h3, fun vs G2 H2 s2 R2 t2 => q (v :: vs) G2 H2 (s1.trans s2) R2 (.cons (t1.mono s2) t2)⟩⟩
@[simp] def vDefK (f fk : FA) (n m : Nat) (g : {α : Type} → List α → List α → List α) (F : FF) : FV := fun st => (f st).bind fun p => (fk p.2).bind fun r => if p.1.length = n ∧ r.1.length = m then (F (g p.1 r.1) r.2.dk).bind fun q => some (q.1, { r.2 with dk := q.2 }) else none
theorem dv_callK {kws : List Keyword} {ks : List Str} {n m : Nat} {g : {α : Type} → List α → List α → List α} (Fn : FnD X.prog X.w X.K X.mg X.base k f fd ps F) (hgd : X.A.guards = some []) (hr : Room k X.A) (hg : Gl X x) (hm : X.mg x = some (.ref f))
    (hk : PySem.W.keepIn X.K (.ref f) = true) (hb : KB X.K fd ps n ks g) (hgr : ∀ (S : SC) (G : Hp) (vs zs : List V) (ts us : List T), TRs S G vs ts → TRs S G zs us → ts.length = n → us.length = ks.length → TRs S G (g vs zs) (g ts us) ∧ (g ts us).length = ps.length)
    (ha : DA X (e :: es) fa) (hkw : DK X kws fk) (hm' : ks.length = m := by rfl) (hall : (backToKw pos (keywordEach kws X.env)).all (·.1.isSome) = true := by rfl) (hks : (backToKw pos (keywordEach kws X.env)).filterMap (·.1) = ks := by rfl) (hdb : (x == ("__debug__" : Str)) = false := by decide)
    (he : starEach (e :: es) X.env = (false, eval e X.env) :: starEach es X.env := by rfl) (hpl : ((backTo pos (starEach (e :: es) X.env)).any (·.1) || (backToKw pos (keywordEach kws X.env)).any (·.1.isNone)) = false := by rfl) :
    DV X (.Call (.Name x p) (e :: es) kws pos) (vDefK fa fk n m g F) := by
  subst hm'
  exact pe_imp (pe_callKG Fn hgd hr hg hm hk hb pass0 ha hkw hall hks hdb he hpl) fun σ H Q ⟨S, G, st, t, st', hK, R, hf, q⟩ => by
    obtain ⟨⟨ts, st1⟩, h1, h2⟩ := obind hf
    obtain ⟨⟨us, st2⟩, h3, h4⟩ := obind h2
    split at h4
    · rename_i hl
      obtain ⟨⟨t', dk'⟩, h5, h6⟩ := obind h4
      cases h6
      refine ⟨S, G, st, ts, st1, hK, R, h1, fun vs G1 H1 s1 R1 t1 => ⟨S, G1, st1, us, st2, hK, R1, h3, fun zs G2 H2 s2 R2 t2 => ?_⟩⟩
      obtain ⟨z1, z2⟩ := hgr S G2 vs zs ts us (t1.mono s2) t2 hl.1 hl.2
      exact ⟨t1.length.trans hl.1, t2.length.trans hl.2, sp_of hK R2 z1 z2 h5 fun v G3 H3 s3 R3 t3 => q v G3 H3 ((s1.trans s2).trans s3) R3 t3⟩
    · cases h4
theorem dv_callK0 {m : Nat} {kws : List Keyword} {ks : List Str} {g : {α : Type} → List α → List α → List α} (Fn : FnD X.prog X.w X.K X.mg X.base k f fd ps F) (hgd : X.A.guards = some []) (hr : Room k X.A) (hg : Gl X x) (hm : X.mg x = some (.ref f))
    (hk : PySem.W.keepIn X.K (.ref f) = true) (hb : KB X.K fd ps 0 ks g) (hgr : ∀ (S : SC) (G : Hp) (vs zs : List V) (ts us : List T), TRs S G vs ts → TRs S G zs us → ts.length = 0 → us.length = ks.length → TRs S G (g vs zs) (g ts us) ∧ (g ts us).length = ps.length)
    (hkw : DK X kws fk) (hm' : ks.length = m := by rfl) (hall : (backToKw pos (keywordEach kws X.env)).all (·.1.isSome) = true := by rfl) (hks : (backToKw pos (keywordEach kws X.env)).filterMap (·.1) = ks := by rfl) (hdb : (x == ("__debug__" : Str)) = false := by decide)
    (hpl : ((backTo pos (starEach [] X.env)).any (·.1) || (backToKw pos (keywordEach kws X.env)).any (·.1.isNone)) = false := by rfl) :
    DV X (.Call (.Name x p) [] kws pos) (vDefK aNil fk 0 m g F) := by
  subst hm'
  exact pe_imp (pe_callK0G Fn hgd hr hg hm hk hb pass0 hkw hall hks hdb hpl) fun σ H Q ⟨S, G, st, t, st', hK, R, hf, q⟩ => by
    obtain ⟨⟨ts, st1⟩, h1, h2⟩ := obind hf
    cases h1
    obtain ⟨⟨us, st2⟩, h3, h4⟩ := obind h2
    split at h4
    · rename_i hl
      obtain ⟨⟨t', dk'⟩, h5, h6⟩ := obind h4
      cases h6
      refine ⟨S, G, st, us, st2, hK, R, h3, fun zs G2 H2 s2 R2 t2 => ?_⟩
      obtain ⟨z1, z2⟩ := hgr S G2 [] zs [] us .nil t2 rfl hl.2
      exact ⟨t2.length.trans hl.2, sp_of hK R2 z1 z2 h5 fun v G3 H3 s3 R3 t3 => q v G3 H3 (s2.trans s3) R3 t3⟩
    · cases h4
end
/-- a def's reading, by its body's -/
@[simp] def bodyF (n : Nat) (body : FS) : FF := fun ts dk => (body ⟨ts.map (fun t => some (.val t)) ++ List.replicate (n - ts.length) none, dk⟩).bind fun p => match p.1 with
  | .rt t => some (t, p.2.dk)
  | .nx => some (.d .none, p.2.dk)
  | _ => none
theorem rep_start {S : SC} {H : Hp} {N : List Str} {vs : List V} {ts : List T} {dk : Dk} (E : Ext S S.Gi H dk) (tv : TRs S S.Gi vs ts) : Rep S S.Gi (L2.start N vs) H ⟨ts.map (fun t => some (.val t)) ++ List.replicate (N.length - ts.length) none, dk⟩ := by
  have hl := tv.length
  have nolst : ∀ (i : Nat) (s : Sl), (ts.map (fun t => some (Sl.val t)) ++ List.replicate (N.length - ts.length) none)[i]? = some (some s) → ∃ t, s = .val t ∧ ts[i]? = some t := fun i s e => by
    by_cases hi : i < ts.length
    · rw [List.getElem?_append_left (by simpa using hi), List.getElem?_map, List.getElem?_eq_getElem hi] at e
      cases e
      exact ⟨ts[i], rfl, List.getElem?_eq_getElem hi⟩
    · rw [List.getElem?_append_right (by simpa using hi), List.getElem?_replicate] at e
      split at e <;> cases e
  have get : ∀ {vs : List V} {ts : List T} {i : Nat} {t : T}, TRs S S.Gi vs ts → ts[i]? = some t → ∃ v, vs[i]? = some v ∧ TR S S.Gi v t := by
    intro vs ts i t h
    induction h generalizing i with
    | nil => intro e; simp at e
    | cons h1 _ ih =>
      intro e
      cases i with
      | zero =>
        simp only [List.getElem?_cons_zero, Option.some.injEq] at e
        subst e
        exact ⟨_, rfl, h1⟩
      | succ i =>
        obtain ⟨v, q1, q2⟩ := ih (i := i) (by simpa using e)
        exact ⟨v, by simpa using q1, q2⟩
  refine ⟨E, fun i s e => ?_, fun i j a xs ys _ _ _ e _ => ?_, ?_⟩
  · obtain ⟨t, rfl, ht⟩ := nolst i s e
    obtain ⟨v, q1, q2⟩ := get tv ht
    refine ⟨v, ?_, q2⟩
    have hi : i < vs.length := (List.getElem?_eq_some_iff.mp q1).1
    unfold L2.start
    rw [List.getElem?_append_left (by simpa using hi), List.getElem?_map, q1]
    rfl
  · obtain ⟨t, z, _⟩ := nolst i _ e
    cases z
  · simp [L2.start, hl]
section
variable {P : Program} {w : World} {K : PySem.W.Frag} {mg : Str → Option Value} {base : Heap}
theorem okD_def {x qual : Str} {st : Stmt} {f : Addr} {fd : FuncData} {N ps : List Str} {k : Nat} {body : FS} (F : Fun K x qual st f fd) (Sc : FnScope N ps (defScope st))
    (hbody : ∀ X : Cx, X.prog = P → X.w = w → X.K = K → X.mg = mg → X.base = base → X.N = N → X.env.scope = defScope st → X.calm = true → X.fn = (fun _ => true) → X.A.guards = some [] → Room k X.A → PassesOwn (model X.prog X.w) X.A X.env X.xe → DSs X (defBody st) body) : FnD P w K mg base (k + 1) f fd ps (bodyF N.length body) := by
  refine okG F Sc (fun vs H Q E h => ?_) fun cdv A outer s H vs Q E hg hr h => ?_
  · obtain ⟨S, ts, dk, t, dk', hK, hH, tv, hl, _⟩ := h
    exact tv.length.trans hl
  · obtain ⟨S, ts, dk, t, dk', hK, hH, tv, hl, E0, hF, q⟩ := h
    refine ⟨_, hbody (cxOf CX0 P w K mg base N qual (defScope st) f cdv A outer s H E).nox rfl rfl rfl rfl rfl rfl rfl rfl rfl hg hr PassesOwn.never, ?_⟩
    obtain ⟨⟨fl, st2⟩, h1, h2⟩ := obind hF
    subst hH
    refine ⟨S, S.Gi, _, fl, st2, hK, rep_start E0 tv, h1, ?_⟩
    cases fl with
    | nx =>
      cases h2
      exact fun G' σ' H' s' R' => q .non G' H' R'.toExt Dr.non
    | rt t =>
      cases h2
      exact fun v G' σ' H' s' R' t' => q v G' H' R'.toExt t'
    | bk => cases h2
    | ct => cases h2
end
end DL
set_option maxRecDepth 100000
set_option maxHeartbeats 4000000
/-! DL: the deck -/
namespace DL
open PySem PySem.Spec PyProof.Rows L2
def Dk.kvs (dk : Dk) (ca : Addr) : List (Key × V) := [(.inr "cells", .ref ca), (.inr "mixed", .int dk.mixed), (.inr "draws", .int dk.draws)]
theorem da_ca {S : SC} {H : Hp} {dk : Dk} (h : DeckR S H dk) : S.ca ≠ S.da := fun z => by
  have h1 := h.1
  have h2 := h.2.1
  rw [z, h1] at h2
  cases h2
section
variable {S : SC} {G H : Hp} {σ : L2.St} {st : M}
/-- one of the deck's objects is written -/
theorem Rep.deckWrite (R : Rep S G σ H st) {a : Addr} {o : HO} {dk' : Dk} (ha : a = S.da ∨ a = S.ca) (hdk : DeckR S (upd H a o) dk') : Rep S G σ (upd H a o) { st with dk := dk' } := by
  have ga : G a = none := by
    rcases ha with rfl | rfl
    · exact R.gd.1
    · exact R.gd.2
  refine ⟨⟨fun b x e => ?_, R.gi, R.gn, fun b x e h1 h2 => ?_, hdk, R.dn, R.gd⟩, fun i s e => ?_, R.sep, R.len⟩
  · rw [upd_ne (fun z => by rw [z, ga] at e; cases e)]; exact R.same b x e
  · rw [upd_ne (fun z => by
      rcases ha with q | q
      · exact h1 (z.trans q)
      · exact h2 (z.trans q))]
    exact R.hi b x e h1 h2
  · obtain ⟨v, h1, h2⟩ := R.sl i s e
    refine ⟨v, h1, ?_⟩
    cases s with
    | val t => exact h2
    | lst xs =>
      obtain ⟨b, vs, rfl, q1, q2, q3, q4, q5⟩ := h2
      refine ⟨b, vs, rfl, ?_, q2, q3, q4, q5⟩
      rw [upd_ne (fun z => by
        rcases ha with q | q
        · exact R.dn.1 (q ▸ z ▸ q4)
        · exact R.dn.2 (q ▸ z ▸ q4))]
      exact q1
end
@[simp] def dkOf (f : FV) (g : Dk → PyData) : FV := fun st => (f st).bind fun p => match p.1 with
  | .deck => some (.d (g p.2.dk), p.2)
  | _ => none
/-- deck["draws"] = e -/
@[simp] def sDraws (f g : FV) : FS := fun st => (f st).bind fun p => (g p.2).bind fun q => match p.1, q.1 with
  | .d (.int i), .deck => some (.nx, { q.2 with dk := { q.2.dk with draws := i } })
  | _, _ => none
/-- deck["cells"] != [] -/
@[simp] def bCells (f : FV) : FB := fun st => (f st).bind fun p => match p.1 with
  | .deck => some (!p.2.dk.cells.isEmpty, p.2)
  | _ => none
@[simp] def vCellsPop (f : FV) : FV := fun st => (f st).bind fun p => match p.1 with
  | .deck => (p.2.dk.cells[p.2.dk.cells.length - 1]?).bind fun y => some (.d (.int y), { p.2 with dk := { p.2.dk with cells := p.2.dk.cells.dropLast, ok := by have := p.2.dk.ok; rw [List.length_dropLast]; omega } })
  | _ => none
@[simp] def sCellsApp (g f : FV) : FS := fun st => (g st).bind fun p => match p.1 with
  | .deck => (f p.2).bind fun q => match q.1 with
    | .d (.int i) => if h : q.2.dk.cells.length < 1000 then some (.nx, { q.2 with dk := { q.2.dk with cells := q.2.dk.cells ++ [i], ok := by rw [List.length_append]; exact h } }) else none
    | _ => none
  | _ => none
section
variable {X : Cx} {k : Nat} {e v : Expr} {f g : FV} {pos pos' p1 p2 p3 apos cpos : Pos} {j1 j2 : Nat}
theorem hu_room (hr : Room k X.A) : X.A.units + 1 < cLine := by
  have := hr.un
  omega
theorem lift_deck {K : PySem.W.Frag} {h : Dk → PyData} {σ : L2.St} {H : Hp} {Q : VK} (hh : LiftV K (dkOf f h) σ H Q) : LiftV K f σ H fun x H1 => ∃ S G st, S.K = K ∧ Rep S G σ H1 st ∧ x = .ref S.da ∧ ∀ v, Dr S.K G v (h st.dk) → Q v H1 := by
  obtain ⟨S, G, st, t, st', hK, R, hf, q⟩ := hh
  obtain ⟨⟨x, st1⟩, h1, h2⟩ := obind hf
  cases x with
  | d _ => cases h2
  | deck =>
    cases h2
    exact ⟨S, G, st, _, _, hK, R, h1, fun v G1 H1 s1 R1 t1 => ⟨S, G1, _, hK, R1, t1, fun w hw => q w G1 H1 s1 R1 hw⟩⟩
theorem kc_m : ¬ (Sum.inr ("cells" : Str) : Key) = Sum.inr ("mixed" : Str) := by decide
theorem kc_d : ¬ (Sum.inr ("cells" : Str) : Key) = Sum.inr ("draws" : Str) := by decide
theorem km_d : ¬ (Sum.inr ("mixed" : Str) : Key) = Sum.inr ("draws" : Str) := by decide
theorem val_cells (dk : Dk) (ca : Addr) : valV (dk.kvs ca) (Sum.inr ("cells" : Str)) = some (.ref ca) := by
  unfold valV Dk.kvs
  simp only [List.find?_cons, decide_true, Option.map_some]
theorem val_mixed (dk : Dk) (ca : Addr) : valV (dk.kvs ca) (Sum.inr ("mixed" : Str)) = some (.int dk.mixed) := by
  unfold valV Dk.kvs
  simp only [List.find?_cons, decide_true, Option.map_some, decide_eq_false kc_m]
theorem val_draws (dk : Dk) (ca : Addr) : valV (dk.kvs ca) (Sum.inr ("draws" : Str)) = some (.int dk.draws) := by
  unfold valV Dk.kvs
  simp only [List.find?_cons, decide_true, Option.map_some, decide_eq_false kc_d, decide_eq_false km_d]
theorem put_draws (dk : Dk) (ca : Addr) (i : Int) : putK (dk.kvs ca) (Sum.inr ("draws" : Str)) (.int i) = ({ dk with draws := i } : Dk).kvs ca := by
  unfold putK Dk.kvs
  simp only [List.any_cons, decide_true, Bool.true_or, Bool.or_true, if_true, List.map_cons, List.map_nil, if_neg kc_d, if_neg km_d]
theorem dv_dkDraws (hr : Room k X.A) (he : DV X e f) (hs : NoSl (.Constant (.str "draws") j1 p1) := by first | trivial | (intro; trivial) | exact fun _ _ => rfl) : DV X (.Subscript e (.Constant (.str "draws") j1 p1) pos) (dkOf f fun dk => .int dk.draws) :=
  pe_imp (pe_dget (hu_room hr) he pe_str hs) fun σ H Q h => by
    obtain ⟨S, G, st, t, st', hK, R, hf, q⟩ := lift_deck h
    refine ⟨S, G, st, t, st', hK, R, hf, fun v G1 H1 s1 R1 t1 => ?_⟩
    obtain ⟨S, G, st, hK, R, rfl, q⟩ := q v G1 H1 s1 R1 t1
    exact ⟨S.da, .int st.dk.draws, rfl, (val_draws st.dk S.ca) ▸ DGet.k (k := Sum.inr ("draws" : Str)) R.dk.1, q _ (.int _)⟩
theorem dv_dkMixed (hr : Room k X.A) (he : DV X e f) (hs : NoSl (.Constant (.str "mixed") j1 p1) := by first | trivial | (intro; trivial) | exact fun _ _ => rfl) : DV X (.Subscript e (.Constant (.str "mixed") j1 p1) pos) (dkOf f fun dk => .int dk.mixed) :=
  pe_imp (pe_dget (hu_room hr) he pe_str hs) fun σ H Q h => by
    obtain ⟨S, G, st, t, st', hK, R, hf, q⟩ := lift_deck h
    refine ⟨S, G, st, t, st', hK, R, hf, fun v G1 H1 s1 R1 t1 => ?_⟩
    obtain ⟨S, G, st, hK, R, rfl, q⟩ := q v G1 H1 s1 R1 t1
    exact ⟨S.da, .int st.dk.mixed, rfl, (val_mixed st.dk S.ca) ▸ DGet.k (k := Sum.inr ("mixed" : Str)) R.dk.1, q _ (.int _)⟩
theorem ds_draws (hr : Room k X.A) (hv : DV X v f) (he : DV X e g) (hs : swapsWith v (some (.Subscript e (.Constant (.str "draws") j1 p1) pos')) pos.line X.env = pure false := by rfl) : DS X (.Assign [.Subscript e (.Constant (.str "draws") j1 p1) pos'] v pos) (sDraws f g) :=
  ps_imp (ps_dput (hu_room hr) he pe_str hv hs) fun D σ H ⟨S, G, st, fl, st', hK, R, hf, q⟩ => by
    obtain ⟨⟨t, st1⟩, h1, h2⟩ := obind hf
    obtain ⟨⟨u, st2⟩, h3, h4⟩ := obind h2
    refine ⟨S, G, st, t, st1, hK, R, h1, fun v G1 H1 s1 R1 t1 => ⟨S, G1, st1, u, st2, hK, R1, h3, fun w G2 H2 s2 R2 t2 => ?_⟩⟩
    split at h4
    · rename_i i e1 e2
      cases h4
      simp only at e1 e2
      subst e1
      subst e2
      obtain rfl : w = .ref S.da := t2
      rw [t1.int]
      refine ⟨S.da, _, rfl, DPut.k (k := Sum.inr ("draws" : Str)) R2.dk.1 (by rw [sizeLine_eq]; exact (by decide : 3 < 16777216)), ?_⟩
      refine q G2 σ _ (s1.trans s2) ?_
      have z := R2.deckWrite (a := S.da) (o := .dK (putK (st2.dk.kvs S.ca) (Sum.inr ("draws" : Str)) (.int i))) (dk' := { st2.dk with draws := i }) (.inl rfl) ⟨by rw [upd_same, put_draws]; rfl, by rw [upd_ne (da_ca R2.dk)]; exact R2.dk.2.1, R2.dk.2.2⟩
      exact z
    · cases h4
theorem eqv_nil {xs : List PyData} : PyData.eqv (.list xs) (.list []) = xs.isEmpty := by
  cases xs <;> simp [PyData.eqv, PyData.eqvAll]
theorem okD_list_ints (xs : List Int) : okD (.list (xs.map PyData.int)) = true := by
  rw [okD_iff]
  have h : PyData.plainAll (xs.map PyData.int) = true ∧ PyData.depthAll (xs.map PyData.int) = 0 := by
    induction xs with
    | nil => exact ⟨rfl, rfl⟩
    | cons x xs ih => exact ⟨by simp only [List.map_cons, PyData.plainAll, PyData.plain, ih.1, Bool.and_self], by simp only [List.map_cons, PyData.depthAll, PyData.depth, ih.2]; rfl⟩
  exact ⟨by simp only [PyData.plain]; exact h.1, by simp only [PyData.depth, h.2]; decide⟩
theorem db_cells (hr : Room k X.A) (he : DV X e f) (hs : NoSl (.Constant (.str "cells") j1 p1) := by first | trivial | (intro; trivial) | exact fun _ _ => rfl) : DB X (.Compare (.Subscript e (.Constant (.str "cells") j1 p1) pos) [.NotEq] [.List [] p2] pos') (bCells f) :=
  pt_imp (pt_cmpR (op_neP hr) (pe_dget (hu_room hr) he pe_str hs) (pe_lst pa_nil) (nomark _)) fun σ H Q ⟨S, G, st, t, st', hK, R, hf, q⟩ => by
    obtain ⟨⟨x, st1⟩, h1, h2⟩ := obind hf
    refine ⟨S, G, st, x, st1, hK, R, h1, fun v G1 H1 s1 R1 t1 => ?_⟩
    cases x with
    | d _ => cases h2
    | deck =>
      cases h2
      obtain rfl : v = .ref S.da := t1
      refine ⟨S.da, .ref S.ca, rfl, (val_cells _ S.ca) ▸ DGet.k (k := Sum.inr ("cells" : Str)) R1.dk.1, Nat.zero_le _, fun p hp => ?_⟩
      have sm := same_new (o := .lst []) hp
      have hc : (upd H1 p (.lst [])) S.ca = some (.lst (st1.dk.cells.map V.int)) := sm _ _ R1.dk.2.1
      have hp2 : (upd H1 p (.lst [])) p = some (.lst []) := upd_same
      refine ⟨.list (st1.dk.cells.map PyData.int), .list [], .lst (.inl hc) (by rw [List.length_map, sizeLine_eq]; exact R1.dk.2.2) (DrAll.ints _), .lst (.inl hp2) (Nat.zero_le _) .nil, ⟨okD_list_ints _, by decide⟩, _, rfl, ?_⟩
      have e : (!PyData.eqv (.list (st1.dk.cells.map PyData.int)) (.list [])) = !st1.dk.cells.isEmpty := by
        rw [eqv_nil, List.isEmpty_map]
      show Q (!PyData.eqv (.list (st1.dk.cells.map PyData.int)) (.list [])) _
      rw [e]
      exact q _ _ (s1.trans (R1.newSame hp _)) (R1.new hp _)
theorem dv_cellsPop (hr : Room k X.A) (he : DV X e f) (hs : NoSl (.Constant (.str "cells") j1 p1) := by first | trivial | (intro; trivial) | exact fun _ _ => rfl)
    (hbase : attributeBase (.Subscript e (.Constant (.str "cells") j1 p1) pos) "pop" X.env (eval (.Subscript e (.Constant (.str "cells") j1 p1) pos) X.env) = eval (.Subscript e (.Constant (.str "cells") j1 p1) pos) X.env := by rfl) (hline : (apos.endLine == cpos.line) = true := by rfl) :
    DV X (.Call (.Attribute (.Subscript e (.Constant (.str "cells") j1 p1) pos) "pop" apos) [] [] cpos) (vCellsPop f) :=
  pe_imp (pe_bm0 PySem.F.plainAttrs_list PySem.F.slot_list_pop PySem.F.type_list_pop mt_pop (pe_dget (hu_room hr) he pe_str hs) hbase hline) fun σ H Q ⟨S, G, st, t, st', hK, R, hf, q⟩ => by
    obtain ⟨⟨x, st1⟩, h1, h2⟩ := obind hf
    refine ⟨S, G, st, x, st1, hK, R, h1, fun v G1 H1 s1 R1 t1 => ?_⟩
    cases x with
    | d _ => cases h2
    | deck =>
      obtain ⟨y, h3, h4⟩ := obind h2
      cases h4
      obtain rfl : v = .ref S.da := t1
      refine ⟨S.da, .ref S.ca, rfl, (val_cells _ S.ca) ▸ DGet.k (k := Sum.inr ("cells" : Str)) R1.dk.1, .inl ⟨rfl, _, .of R1.dk.2.1⟩, S.ca, _, .int y, rfl, rfl, R1.dk.2.1, ?_, ?_⟩
      · rw [List.length_map, List.getElem?_map]
        have h3' : st1.dk.cells[st1.dk.cells.length - 1]? = some y := h3
        rw [h3']
        rfl
      · refine q _ G1 _ s1 (R1.deckWrite (.inr rfl) ⟨?_, ?_, ?_⟩) (Dr.int _)
        · rw [upd_ne (da_ca R1.dk).symm]; exact R1.dk.1
        · rw [upd_same, List.map_dropLast]
        · have := R1.dk.2.2
          show st1.dk.cells.dropLast.length ≤ 16777216
          rw [List.length_dropLast]
          omega
theorem ds_cellsApp (hr : Room k X.A) {q : Pos} (he : DV X e g) (hv : DV X v f) (hs : NoSl (.Constant (.str "cells") j1 p1) := by first | trivial | (intro; trivial) | exact fun _ _ => rfl) (hs1 : starEach [v] X.env = (false, eval v X.env) :: starEach [] X.env := by rfl)
    (hbase : attributeBase (.Subscript e (.Constant (.str "cells") j1 p1) pos) "append" X.env (eval (.Subscript e (.Constant (.str "cells") j1 p1) pos) X.env) = eval (.Subscript e (.Constant (.str "cells") j1 p1) pos) X.env := by rfl)
    (hfew : ((backTo cpos (starEach [v] X.env)).all (fun x => !x.1) && (backToKw cpos (keywordEach [] X.env)).all (fun x => x.1.isSome) && decide ([v].length + ([] : List Keyword).length + (if ([] : List Keyword).isEmpty then 0 else 1) < 30)) = true := by rfl)
    (hline : (apos.endLine == cpos.line) = true := by rfl) (hplain : (backTo cpos (starEach [] X.env)).any (·.1) = false := by rfl) (hsw : swapsWith (.Call (.Attribute (.Subscript e (.Constant (.str "cells") j1 p1) pos) "append" apos) [v] [] cpos) none q.line X.env = pure false := by rfl) :
    DS X (.Expr (.Call (.Attribute (.Subscript e (.Constant (.str "cells") j1 p1) pos) "append" apos) [v] [] cpos) q) (sCellsApp g f) :=
  ps_imp (ps_expr (pe_bm PySem.F.plainAttrs_list PySem.F.slot_list_append PySem.F.type_list_append mt_append (pe_dget (hu_room hr) he pe_str hs) (pa_cons hv pa_nil hs1) hbase hfew hline hs1 hplain) hsw) fun D σ H ⟨S, G, st, fl, st', hK, R, hf, q⟩ => by
    obtain ⟨⟨x, st1⟩, h1, h2⟩ := obind hf
    refine ⟨S, G, st, x, st1, hK, R, h1, fun v G1 H1 s1 R1 t1 => ?_⟩
    cases x with
    | d _ => cases h2
    | deck =>
      obtain ⟨⟨y, st2⟩, h3, h4⟩ := obind h2
      obtain rfl : v = .ref S.da := t1
      refine ⟨S.da, .ref S.ca, rfl, (val_cells _ S.ca) ▸ DGet.k (k := Sum.inr ("cells" : Str)) R1.dk.1, .inl ⟨rfl, _, .of R1.dk.2.1⟩, S, G1, st1, y, st2, hK, R1, h3, fun w G2 H2 s2 R2 t2 => ?_⟩
      cases y with
      | deck => cases h4
      | d y =>
        cases y with
        | int i =>
          have h4' : (if h : st2.dk.cells.length < 1000 then some (Fl.nx, ({ st2 with dk := { st2.dk with cells := st2.dk.cells ++ [i], ok := by rw [List.length_append]; exact h } } : M)) else none) = some (fl, st') := h4
          split at h4'
          · rename_i hz
            cases h4'
            rw [t2.int]
            refine ⟨S.ca, _, _, rfl, rfl, R2.dk.2.1, by rw [List.length_map, sizeLine_eq]; omega, ?_⟩
            refine q G2 σ _ (s1.trans s2) (R2.deckWrite (.inr rfl) ⟨?_, ?_, ?_⟩)
            · rw [upd_ne (da_ca R2.dk).symm]; exact R2.dk.1
            · rw [upd_same, List.map_append]; rfl
            · show (st2.dk.cells ++ [i]).length ≤ 16777216
              rw [List.length_append]
              simp
              omega
          · cases h4'
        | _ => cases h4
end
end DL
set_option maxRecDepth 100000
set_option maxHeartbeats 4000000
/-! DL: two and three names at once; keywords; the law's own end -/
namespace DL
open PySem PySem.Spec PyProof.Rows L2
section
variable {X : Cx} {a b c e : Expr} {f g h : FV} {pos : Pos}
theorem db_chain {op op' : CmpOp} {F F' : T → T → Option T} {r r' : R2} (ho : OpR X (compareOp op) r) (ok : R2ok X.K F r) (ho' : OpR X (compareOp op') r') (ok' : R2ok X.K F' r') (ha : DV X a f) (hb : DV X b g) (hc : DV X c h)
    (hm : lastMarks [op, op'] [b, c] = false := by with_unfolding_all rfl) : DB X (.Compare a [op, op'] [b, c] pos) (tBool (vChain f g h F F')) := pt_imp (pt_chain ho ho' ha hb hc hm) fun σ H Q ⟨S, G, st, t, st', hK, R, hf, q⟩ => by
  obtain ⟨⟨x, st1⟩, h1, h2⟩ := obind hf
  refine lift_chain ok ok' ⟨S, G, st, x, st1, hK, R, h1, fun v G' H' s R' tv => ?_⟩
  cases x with
  | deck => cases h2
  | d x =>
    cases x with
    | bool b =>
      cases h2
      cases (show Dr S.K G' v (.bool _) from tv)
      exact ⟨_, rfl, q G' H' s R'⟩
    | _ => cases h2
/-- a, b = x, y with plain local names -/
@[simp] def sPar (i j : Nat) (f : FA) : FS := fun st => (f st).bind fun p => match p.1 with
  | [t, u] => some (.nx, (p.2.set i t).set j u)
  | _ => none
@[simp] def sPar3 (i j l : Nat) (f : FA) : FS := fun st => (f st).bind fun p => match p.1 with
  | [t, u, v] => some (.nx, ((p.2.set i t).set j u).set l v)
  | _ => none
theorem ds_par (i j : Nat) {x y : Str} {f : FA} {px py pt : Pos} {kt k2 : Nat} {pt2 : Pos} (hc : X.calm = true) (hN : X.N.Nodup) (ha : DA X [a, b] f) (hij : i ≠ j := by decide) (hi : X.N[i]? = some x := by rfl) (hj : X.N[j]? = some y := by rfl)
    (hx : X.env.scope.names.lookup x = some .local := by rfl) (hy : X.env.scope.names.lookup y = some .local := by rfl) (hw : swappedStores [.Tuple [.Name x px, .Name y py] kt pt] (.Tuple [a, b] k2 pt2) X.env = pure (some [x, y]) := by rfl)
    (hs : swapsWithSole [.Tuple [.Name x px, .Name y py] kt pt] (.Tuple [a, b] k2 pt2) pos.line X.env = pure false := by rfl) : DS X (.Assign [.Tuple [.Name x px, .Name y py] kt pt] (.Tuple [a, b] k2 pt2) pos) (sPar i j f) :=
  ps_imp (ps_par hc hN hi hj hij hx hy ha hw hs) fun D σ H ⟨S, G, st, fl, st', hK, R, hf, q⟩ => by
    obtain ⟨⟨ts, st1⟩, h1, h2⟩ := obind hf
    refine ⟨S, G, st, ts, st1, hK, R, h1, fun vs G1 H1 s1 R1 t1 => ?_⟩
    split at h2
    · rename_i t u e
      cases h2
      simp only at e
      subst e
      obtain ⟨v, w, rfl, tv, tw⟩ := t1.two
      exact ⟨v, w, rfl, q G1 _ H1 s1 ((R1.set tv).set tw)⟩
    · cases h2
theorem TRs.three {S : SC} {G : Hp} {vs : List V} {t u r : T} (h : TRs S G vs [t, u, r]) : ∃ v w z, vs = [v, w, z] ∧ TR S G v t ∧ TR S G w u ∧ TR S G z r := by
  cases h with
  | cons h1 h2 =>
    obtain ⟨w, z, rfl, h3, h4⟩ := TRs.two h2
    exact ⟨_, w, z, rfl, h1, h3, h4⟩
end
/-! ### keywords -/
/-- the values of a call in the parameters' order -/
@[simp] def perm (is : List Nat) {α : Type} (us ws : List α) : List α := is.filterMap fun i => (us ++ ws)[i]?
theorem perm_vals (is : List Nat) {vs zs : List V} {us ws : List Value} (r : Vals vs us) (rz : Vals zs ws) : Vals (perm is vs zs) (perm is us ws) := by
  have ra := r.append rz
  unfold perm
  induction is with
  | nil => exact .nil
  | cons i is ih =>
    cases e : (vs ++ zs)[i]? with
    | none =>
      rw [List.filterMap_cons_none e, List.filterMap_cons_none (ra.none_of e)]
      exact ih
    | some x =>
      obtain ⟨u, h1, h2⟩ := ra.get e
      rw [List.filterMap_cons_some e, List.filterMap_cons_some h1]
      exact .cons h2 ih
theorem TRs.append {S : SC} {G : Hp} : ∀ {vs ws : List V} {ts us : List T}, TRs S G vs ts → TRs S G ws us → TRs S G (vs ++ ws) (ts ++ us)
  | _, _, _, _, .nil, h => h
  | _, _, _, _, .cons h t, k => .cons h (TRs.append t k)
theorem TRs.get {S : SC} {G : Hp} : ∀ {vs : List V} {ts : List T} {i : Nat} {t : T}, TRs S G vs ts → ts[i]? = some t → ∃ v, vs[i]? = some v ∧ TR S G v t
  | _, _, _, _, .nil, e => by simp at e
  | _, _, 0, _, .cons h _, e => by
    simp only [List.getElem?_cons_zero, Option.some.injEq] at e
    subst e
    exact ⟨_, rfl, h⟩
  | _, _, i + 1, t, .cons _ r, e => by
    obtain ⟨v, h1, h2⟩ := TRs.get (i := i) (t := t) r (by simpa using e)
    exact ⟨v, by simpa using h1, h2⟩
theorem perm_trs (is : List Nat) {n : Nat} (his : is.all (fun i => decide (i < n)) = true) {S : SC} {G : Hp} {vs zs : List V} {ts us : List T} (r : TRs S G vs ts) (rz : TRs S G zs us) (hn : ts.length + us.length = n) : TRs S G (perm is vs zs) (perm is ts us) ∧ (perm is ts us).length = is.length := by
  have ra := r.append rz
  unfold perm
  induction is with
  | nil => exact ⟨.nil, rfl⟩
  | cons i is ih =>
    simp only [List.all_cons, Bool.and_eq_true, decide_eq_true_eq] at his
    have hi : i < (ts ++ us).length := by rw [List.length_append]; omega
    have e := List.getElem?_eq_getElem hi
    obtain ⟨v, h1, h2⟩ := ra.get e
    obtain ⟨h3, h4⟩ := ih his.2
    rw [List.filterMap_cons_some e, List.filterMap_cons_some h1]
    exact ⟨.cons h2 h3, by simp only [List.length_cons, h4]⟩
/-- a def of the text, as the top has left it -/
structure Df (K : PySem.W.Frag) (mg : Str → Option Value) (x : Str) (st : Stmt) (ps : List Str) (f : Addr) (fd : FuncData) : Prop where
  fn : Fun K x x st f fd
  mg : mg x = some (.ref f)
  bd : Binds K fd ps []
section
variable {K : PySem.W.Frag} {mg : Str → Option Value} {x : Str} {st : Stmt} {ps : List Str} {f : Addr} {fd : FuncData}
theorem kb_of (F : Fun K x x st f fd) (is : List Nat) {n : Nat} {ks : List Str} (h : ∀ (kV doc pm : Value) (an : Option Addr) (cdv ct : Value) (us ws : List Value), us.length = n → ws.length = ks.length →
    bindArgs (PySem.W.fnOf x x (defArgs st) (defBody st) (defScope st) .none kV doc pm an cdv ct) ⟨us, ks.zip ws⟩ = pure (ps.zip (perm is us ws))) : KB K fd ps n ks (perm is) := by
  obtain ⟨oc, od, kV, doc, pm, an, cdv, ct, osl, rfl, lk, hcd⟩ := F.ex
  exact ⟨fun s us ws _ l1 l2 => .of_eq (h kV doc pm an cdv ct us ws l1 l2), fun _ _ r rz => perm_vals is r rz⟩
end
section
variable {P : Program} {w : World} {K : PySem.W.Frag} {mg : Str → Option Value} {base : Heap}
/-- the context in which a def's body is read -/
abbrev cx (P : Program) (w : World) (K : PySem.W.Frag) (mg : Str → Option Value) (base : Heap) (N : List Str) (qual : Str) (st : Stmt) (f : Addr) (cdv : Value) (A : Around) (outer : List Env) (s : Shared) (H : Hp) (E : XK) : Cx := (cxOf CX0 P w K mg base N qual (defScope st) f cdv A outer s H E).nox
theorem ok_def {x : Str} {st : Stmt} {f : Addr} {fd : FuncData} {N ps : List Str} {k : Nat} {body : FS} (D : Df K mg x st ps f fd) (Sc : FnScope N ps (defScope st))
    (hbody : ∀ (cdv : Value) (A : Around) (outer : List Env) (s : Shared) (H : Hp) (E : XK), A.guards = some [] → Room k (A.deeper (envOfC x (defScope st) s.heap.objs.size f cdv)) → DSs (cx P w K mg base N x st f cdv A outer s H E) (defBody st) body) :
    FnD P w K mg base (k + 1) f fd ps (bodyF N.length body) := by
  refine okG D.fn Sc (fun vs H Q E h => ?_) fun cdv A outer s H vs Q E hg hr h => ?_
  · obtain ⟨S, ts, dk, t, dk', hK, hH, tv, hl, _⟩ := h
    exact tv.length.trans hl
  · obtain ⟨S, ts, dk, t, dk', hK, hH, tv, hl, E0, hF, q⟩ := h
    refine ⟨_, hbody cdv A outer s H E hg hr, ?_⟩
    obtain ⟨⟨fl, st2⟩, h1, h2⟩ := obind hF
    subst hH
    refine ⟨S, S.Gi, _, fl, st2, hK, rep_start E0 tv, h1, ?_⟩
    cases fl with
    | nx =>
      cases h2
      exact fun G' σ' H' s' R' => q .non G' H' R'.toExt Dr.non
    | rt t =>
      cases h2
      exact fun v G' σ' H' s' R' t' => q v G' H' R'.toExt t'
    | bk => cases h2
    | ct => cases h2
/-! ### the deck is made -/
/-- _law_deck: a new deck over the script -/
def spDeck (K : PySem.W.Frag) : Sp := fun vs H Q _ => ∃ (a : Addr) (ns : List Int), vs = [.ref a] ∧ SqL K H a (ns.map V.int) ∧ ns.length ≤ 1000 ∧
  ∀ (H' : Hp) (S : SC) (dk : Dk), S.K = K → Same H H' → H S.da = none → H S.ca = none → DeckR S H' dk → Q (.ref S.da) H'
/-- what a law's body promises -/
def spLaw (K : PySem.W.Frag) : Sp := fun vs H Q _ => ∃ (a : Addr) (ns : List Int), vs = [.ref a] ∧ SqL K H a (ns.map V.int) ∧ ns.length ≤ 63 ∧ ∀ H', Q (.bl true) H'
/-- the law: the deck, then its body, which tells True whatever the deck is -/
theorem ok_law {st s0 : Stmt} {rest : List Stmt} {f fD : Addr} {fd fdD : FuncData} {N : List Str} {k : Nat} {body : FS} {p1 p2 p3 p4 p5 : Pos} (D : Df K mg "law" st ["script"] f fd) (DD : Df K mg "_law_deck" s0 ["script"] fD fdD) (Sc : FnScope N ["script"] (defScope st))
    (hst : defBody st = .Assign [.Name "deck" p1] (.Call (.Name "_law_deck" p2) [.Name "script" p3] [] p4) p5 :: rest)
    (GD : FnG P w K mg base CX0 k fD fdD ["script"] (spDeck K)) (hN0 : N[0]? = some ("script" : Str)) (hN1 : N[1]? = some ("deck" : Str)) (hv0 : Vis (defScope st) "script") (hv1 : Loc (defScope st) "deck") (hgl : (defScope st).names.lookup ("_law_deck" : Str) = some .globalImplicit)
    (hbody : ∀ (cdv : Value) (A : Around) (outer : List Env) (s : Shared) (H : Hp) (E : XK), A.guards = some [] → Room k (A.deeper (envOfC "law" (defScope st) s.heap.objs.size f cdv)) → DSs (cx P w K mg base N "law" st f cdv A outer s H E) rest body)
    (hlaw : ∀ dk : Dk, ∃ dk', ∃ ρ', body ⟨none :: some (.val .deck) :: List.replicate (N.length - 2) none, dk⟩ = some (.rt (.d (.bool true)), ⟨ρ', dk'⟩)) : FnG P w K mg base CX0 (k + 1) f fd ["script"] (spLaw K) := by
  refine okG D.fn Sc (fun vs H Q E h => ?_) fun cdv A outer s H vs Q E hg hr h => ?_
  · obtain ⟨a, ns, rfl, _⟩ := h
    rfl
  · obtain ⟨a, ns, rfl, hS, hl, q⟩ := h
    rw [hst]
    have hN2 : 2 ≤ N.length := by
      have := (List.getElem?_eq_some_iff.mp hN1).1
      omega
    refine ⟨_, pss_cons (ps_set (i := 1) Sc.nd hN1 hv1 (pe_callG GD hg hr hgl DD.mg DD.fn.kp DD.bd pass0 (pa_cons (pe_var hN0 hv0) pa_nil))) (hbody cdv A outer s H E hg hr), ?_⟩
    refine ⟨.ref a, by simp [L2.start], a, ns, rfl, hS, by omega, fun H' S dk hK sm n1 n2 dkr => ?_⟩
    obtain ⟨dk', ρ', hb⟩ := hlaw dk
    let S' : SC := { S with Gi := H, Hi := H' }
    have hgd : H S.da = none ∧ H S.ca = none := ⟨n1, n2⟩
    have hE : Ext S' H H' dk := by
      refine ⟨sm, Same.refl H, fun a o e => .inl e, fun a o e _ _ => e, dkr, ⟨?_, ?_⟩, hgd⟩
      · show H' S.da ≠ none
        rw [dkr.1]; simp
      · show H' S.ca ≠ none
        rw [dkr.2.1]; simp
    have hlenN : (L2.start N [V.ref a]).length = N.length := by
      simp [L2.start]
      omega
    refine ⟨S', H, ⟨none :: some (.val .deck) :: List.replicate (N.length - 2) none, dk⟩, _, _, hK, ⟨hE, fun i sl e => ?_, fun i j c xs ys _ _ _ e _ => ?_, ?_⟩, hb, fun v G' σ' H2 s2 R2 t2 => ?_⟩
    · match i, e with
      | 0, e => simp at e
      | 1, e =>
        simp only [List.getElem?_cons_succ, List.getElem?_cons_zero, Option.some.injEq] at e
        subst e
        refine ⟨.ref S.da, ?_, rfl⟩
        rw [List.getElem?_set_self (by rw [hlenN]; omega)]
      | i + 2, e =>
        simp only [List.getElem?_cons_succ, List.getElem?_replicate] at e
        split at e <;> cases e
    · match i, e with
      | 0, e => simp at e
      | 1, e => simp at e
      | i + 2, e =>
        simp only [List.getElem?_cons_succ, List.getElem?_replicate] at e
        split at e <;> cases e
    · rw [List.length_set, hlenN]
      simp
      omega
    · rw [t2.bool]
      exact q H2
end
end DL
set_option maxRecDepth 100000
set_option maxHeartbeats 1000000
namespace DL
open PySem PySem.Spec PyProof.Rows L2
theorem cut_ints (ns : List Int) : ∃ ms : List Int, cutV (ns.map V.int) none (some 63) = ms.map V.int ∧ ms.length ≤ ns.length := by
  refine ⟨cutL ns none (some 63), ?_, cutL_length _ _ _⟩
  unfold cutV cutL
  rw [List.length_map, List.map_take, List.map_drop]
/-- how the deck's making is read -/
theorem deck_reads {K : PySem.W.Frag} {c0 c1 c2 c3 c4 : Int} {H : Hp} {a : Addr} {ns : List Int} {Q : VK} (h1 : -(2 ^ 64) < c1 ∧ c1 < 2 ^ 64) (h2 : 0 < c2) (h4 : 0 < c4) (hS : SqL K H a (ns.map V.int)) (hl : ns.length ≤ 1000)
    (q : ∀ (H' : Hp) (S : SC) (dk : Dk), S.K = K → Same H H' → H S.da = none → H S.ca = none → DeckR S H' dk → Q (.ref S.da) H') :
    tSeq (tAsg (tC (.int c0)) (gName 1)) (tSeq (tFor (iList K (tSl (rSlL K) (tVar 0) tNoPart (tPart (tC (.int 63))))) (gName 2)
      (tAsg (tOp (rI (fun _ j => 0 < j) fun i j => .int (i % j)) (tCB (fun xs H Q => (∃ i, xs = [.int i] ∧ Q (.int i) H) ∨ ∃ k, xs = [.bl k] ∧ Q (.int (if k then 1 else 0)) H) (tCons (tOp (rI0 fun i j => .int (i + j)) (tOp (rI0 fun i j => .int (i + j)) (tOp (rI CMul fun i j => .int (i * j)) (tVar 1) (tC (.int c1)))
        (tOp (rI (fun _ j => 0 < j) fun i j => .int (i % j)) (tCB (fun xs H Q => (∃ i, xs = [.int i] ∧ Q (.int i) H) ∨ ∃ k, xs = [.bl k] ∧ Q (.int (if k then 1 else 0)) H) (tCons (tVar 2) tNil)) (tC (.int c2)))) (tC (.int c3))) tNil)) (tC (.int c4))) (gName 1)))
      (tRet (tDisp [(tC (.str "cells"), tRevL K (tCB (fun xs H Q => ∃ p ys, xs = [.ref p] ∧ (SqL K H p ys ∨ SqT K H p ys) ∧ ∀ l, H l = none → Q (.ref l) (upd H l (.lst ys))) (tCons (tSl (rSlL K) (tVar 0) tNoPart (tPart (tC (.int 63)))) tNil))), (tC (.str "mixed"), tVar 1), (tC (.str "draws"), tC (.int 0))])))
      { nx := fun _ H' => Q .non H', rt := Q } [some (.ref a), none, none] H := by
  obtain ⟨ms, hms, lms⟩ := cut_ints ns
  refine ⟨.ref a, rfl, 63, rfl, a, ns.map V.int, rfl, hS, fun p hp => ?_⟩
  rw [hms]
  have hP : SqL K (upd H p (.lst (ms.map V.int))) p (ms.map V.int) := .of upd_same
  refine ⟨p, rfl, ⟨_, hP⟩, for_list (xs := ms.map V.int) (fun i σ H2 => ∃ (m : Int) (y : Option V), σ = [some (.ref a), some (.int m), y] ∧ H2 = upd H p (.lst (ms.map V.int))) ⟨c0, none, rfl, rfl⟩ (fun i σ H2 _ ⟨m, y, _, e⟩ => by rw [e]; exact hP) ?_ ?_⟩
  · rintro i x σ H2 hx ⟨m, y, rfl, rfl⟩
    rw [List.getElem?_map] at hx
    cases e : ms[i]? with
    | none => rw [e] at hx; cases hx
    | some z =>
      rw [e] at hx
      cases hx
      refine ⟨.int m, rfl, _, _, rfl, rfl, .inr h1, ?_⟩
      refine ⟨.int z, rfl, .inl ⟨z, rfl, ?_⟩⟩
      refine ⟨_, _, rfl, rfl, h2, ?_⟩
      refine ⟨_, _, rfl, rfl, ?_⟩
      refine ⟨_, _, rfl, rfl, .inl ⟨_, rfl, ?_⟩⟩
      exact ⟨_, _, rfl, rfl, h4, _, _, rfl, rfl⟩
  · rintro σ H2 ⟨m, y, rfl, rfl⟩
    have s1 : Same H (upd H p (.lst (ms.map V.int))) := same_new hp
    intro d hd
    have s2 : Same (upd H p (.lst (ms.map V.int))) (upd (upd H p (.lst (ms.map V.int))) d (.dK [])) := same_new hd
    refine ⟨.ref a, rfl, 63, rfl, a, ns.map V.int, rfl, s2.seq (s1.seq hS), fun p2 hp2 => ?_⟩
    rw [hms]
    have s3 := same_new (o := .lst (ms.map V.int)) hp2
    refine ⟨p2, ms.map V.int, rfl, .inl (.of upd_same), fun p3 hp3 => ?_⟩
    have s4 := same_new (o := .lst (ms.map V.int)) hp3
    refine ⟨p3, ms.map V.int, rfl, .of upd_same, fun p4 hp4 => ?_⟩
    have s5 := same_new (o := .lst (ms.map V.int).reverse) hp4
    refine ⟨.int m, rfl, ?_⟩
    have sd := (s3.trans s4).trans s5
    have hdd : ∀ X : Hp, Same (upd (upd H p (.lst (ms.map V.int))) d (.dK [])) X → X d = some (.dK []) := fun X hX => hX d _ upd_same
    refine ⟨hdd _ sd, [(.inr "cells", .ref p4), (.inr "mixed", .int m), (.inr "draws", .int 0)], rfl, (by show 3 ≤ 15; decide), ?_⟩
    have n4 : p4 ≠ d := fun z => by
      have := hdd _ (s3.trans s4)
      rw [z] at hp4
      exact absurd (this.symm.trans hp4) (by simp)
    have hfree : H p4 = none := ((s1.trans s2).trans (s3.trans s4)).free hp4
    have hfd : H d = none := s1.free hd
    refine q _ ⟨K, d, p4, H, H⟩ ⟨ms.reverse, m, 0, by rw [List.length_reverse]; omega⟩ rfl ?_ hfd hfree ⟨?_, ?_, ?_⟩
    · intro b o e
      rw [upd_ne (ne_of_none e hfd)]
      exact ((s1.trans s2).trans sd) b o e
    · rw [upd_same]
      rfl
    · rw [upd_ne n4, upd_same, List.map_reverse]
    · show ms.reverse.length ≤ 16777216
      rw [List.length_reverse]
      omega
end DL
set_option maxRecDepth 100000
set_option maxHeartbeats 1000000
/-! DL: plain laws about what is reckoned -/
namespace DL
open PySem
/-! ### loops -/
theorem lc_pure {vs : List Nat} {g : FG} {tt : FB} {te : FV} {st : M} (p : T → Bool) (φ : T → PyData) : ∀ {ts : List T} (acc : List PyData),
    (∀ t ∈ ts, ∃ s1 s2, g t (st.wipe vs) = some s1 ∧ tt s1 = some (p t, s2) ∧ (p t = false → st.back s2 vs = st) ∧ (p t = true → ∃ s3, te s2 = some (.d (φ t), s3) ∧ st.back s3 vs = st)) →
    lcLoop vs g tt te ts st acc = some (acc ++ (ts.filter p).map φ, st)
  | [], acc, _ => by simp [lcLoop]
  | t :: ts, acc, h => by
    obtain ⟨s1, s2, h1, h2, h3, h4⟩ := h t List.mem_cons_self
    have ih := fun acc => lc_pure p φ (ts := ts) acc fun u hu => h u (List.mem_cons_of_mem _ hu)
    unfold lcLoop
    rw [h1]
    simp only [Option.bind_some, h2]
    cases hp : p t with
    | false =>
      simp only [Bool.false_eq_true, if_false]
      rw [h3 hp, ih, List.filter_cons_of_neg (by simp [hp])]
    | true =>
      obtain ⟨s3, h5, h6⟩ := h4 hp
      simp only [if_true, h5, Option.bind_some]
      rw [h6, ih, List.filter_cons_of_pos hp, List.map_cons, List.append_assoc]
      rfl
/-- items are kept or left out by what is drawn -/
theorem lc_drawn {vs : List Nat} {g : FG} {tt : FB} {te : FV} {ρ : List (Option Sl)} (φ : T → PyData) : ∀ {ts : List T} (dk : Dk) (acc : List PyData),
    (∀ t ∈ ts, ∀ dk, ∃ s1 b s2, g t ((⟨ρ, dk⟩ : M).wipe vs) = some s1 ∧ tt s1 = some (b, s2) ∧ (b = false → ∃ dk', (⟨ρ, dk⟩ : M).back s2 vs = ⟨ρ, dk'⟩) ∧ (b = true → ∃ s3 dk', te s2 = some (.d (φ t), s3) ∧ (⟨ρ, dk⟩ : M).back s3 vs = ⟨ρ, dk'⟩)) →
    ∃ (us : List T) (dk' : Dk), us.Sublist ts ∧ lcLoop vs g tt te ts ⟨ρ, dk⟩ acc = some (acc ++ us.map φ, ⟨ρ, dk'⟩)
  | [], dk, acc, _ => ⟨[], dk, .slnil, by simp [lcLoop]⟩
  | t :: ts, dk, acc, h => by
    obtain ⟨s1, b, s2, h1, h2, h3, h4⟩ := h t List.mem_cons_self dk
    have ih := fun dk acc => lc_drawn φ (ts := ts) dk acc fun u hu => h u (List.mem_cons_of_mem _ hu)
    unfold lcLoop
    rw [h1]
    simp only [Option.bind_some, h2]
    cases hp : b with
    | false =>
      obtain ⟨dk1, h5⟩ := h3 hp
      obtain ⟨us, dk2, h6, h7⟩ := ih dk1 acc
      simp only [Bool.false_eq_true, if_false]
      rw [h5]
      exact ⟨us, dk2, h6.cons t, h7⟩
    | true =>
      obtain ⟨s3, dk1, h5, h6⟩ := h4 hp
      obtain ⟨us, dk2, h7, h8⟩ := ih dk1 (acc ++ [φ t])
      simp only [if_true, h5, Option.bind_some]
      rw [h6]
      exact ⟨t :: us, dk2, h7.cons₂ t, by rw [h8]; simp⟩
theorem lc2In_pure {vs : List Nat} {g : FG} {te : FV} {st : M} (φ : T → PyData) : ∀ {ts : List T} (acc : List PyData), acc.length + ts.length ≤ 16777216 →
    (∀ t ∈ ts, ∃ s1 s3, g t (st.wipe vs) = some s1 ∧ te s1 = some (.d (φ t), s3) ∧ st.back s3 vs = st) → lc2In vs g bYes te ts st acc = some (acc ++ ts.map φ, st)
  | [], acc, _, _ => by simp [lc2In]
  | t :: ts, acc, hl, h => by
    obtain ⟨s1, s3, h1, h2, h3⟩ := h t List.mem_cons_self
    simp only [List.length_cons] at hl
    have ih := lc2In_pure φ (ts := ts) (acc ++ [φ t]) (by simp; omega) fun u hu => h u (List.mem_cons_of_mem _ hu)
    unfold lc2In
    rw [h1]
    simp only [Option.bind_some, bYes, if_true, h2]
    rw [if_pos (by omega), h3, ih]
    simp
theorem lc2_pure {vs vs1 : List Nat} {g g1 : FG} {it1 : FI} {te : FV} {st : M} (φ : T → List PyData) : ∀ {ts : List T} (acc : List PyData), acc.length + (ts.map fun t => (φ t).length).sum ≤ 16777216 →
    (∀ t ∈ ts, ∃ s1 us s2 s3, g t (st.wipe vs) = some s1 ∧ it1 s1 = some (us, s2) ∧ (∀ acc : List PyData, acc.length + (φ t).length ≤ 16777216 → lc2In vs1 g1 bYes te us s2 acc = some (acc ++ φ t, s3)) ∧ st.back s3 vs = st) →
    lc2Loop vs g bYes it1 vs1 g1 bYes te ts st acc = some (acc ++ ts.flatMap φ, st)
  | [], acc, _, _ => by simp [lc2Loop]
  | t :: ts, acc, hl, h => by
    obtain ⟨s1, us, s2, s3, h1, h2, h3, h4⟩ := h t List.mem_cons_self
    simp only [List.map_cons, List.sum_cons] at hl
    have ih := lc2_pure φ (ts := ts) (acc ++ φ t) (by simp; omega) fun u hu => h u (List.mem_cons_of_mem _ hu)
    unfold lc2Loop
    rw [h1]
    simp only [Option.bind_some, bYes, if_true, h2]
    rw [h3 acc (by omega)]
    simp only [Option.bind_some]
    rw [h4, ih]
    simp
/-- a loop that goes through, by what holds between its turns -/
theorem for_inv {g : FG} {body : FS} (I : Nat → M → Prop) : ∀ {ts : List T} {k : Nat} {st : M}, I k st → (∀ i t st, ts[i]? = some t → I (k + i) st → ∃ s1 fl s2, g t st = some s1 ∧ body s1 = some (fl, s2) ∧ (fl = .nx ∨ fl = .ct) ∧ I (k + i + 1) s2) →
    ∃ st', forS g body ts st = some (.nx, st') ∧ I (k + ts.length) st'
  | [], k, st, h0, _ => ⟨st, rfl, h0⟩
  | t :: ts, k, st, h0, h => by
    obtain ⟨s1, fl, s2, h1, h2, h3, h4⟩ := h 0 t st rfl h0
    obtain ⟨st', h5, h6⟩ := for_inv I (ts := ts) (k := k + 1) (st := s2) h4 fun i u st hu hI => by
      have := h (i + 1) u st (by simpa using hu) (by rw [show k + (i + 1) = k + 1 + i by omega]; exact hI)
      rw [show k + (i + 1) + 1 = k + 1 + i + 1 by omega] at this
      exact this
    refine ⟨st', ?_, by rw [List.length_cons, show k + (ts.length + 1) = k + 1 + ts.length by omega]; exact h6⟩
    unfold forS
    rw [h1]
    simp only [Option.bind_some, h2]
    rcases h3 with rfl | rfl <;> exact h5
theorem obs {α β : Type} {x : α} {f : α → Option β} : (some x).bind f = f x := rfl
/-! ### data -/
theorem okLb_int (i j : Int) : okLb (.int i) (.int j) = true := by simp [okLb, W.alike, isNoneD, PyData.depth]
theorem okD_int (i : Int) : okD (.int i) = true := by simp [okD, PyData.plain, PyData.depth]
theorem okD_bool (i : Bool) : okD (.bool i) = true := by simp [okD, PyData.plain, PyData.depth]
theorem okD_str (i : Str) : okD (.str i) = true := by simp [okD, PyData.plain, PyData.depth]
theorem eqv_int (i j : Int) : PyData.eqv (.int i) (.int j) = (i == j) := by simp [PyData.eqv]
theorem eqv_str (i j : Str) : PyData.eqv (.str i) (.str j) = (i == j) := by simp [PyData.eqv]
theorem eqv_bool (i j : Bool) : PyData.eqv (.bool i) (.bool j) = (i == j) := by simp [PyData.eqv]
theorem any_nn : ∀ (xs : List Int) (x : Int), ((xs.map PyData.int).any fun y => PyData.eqv y (.int x)) = decide (x ∈ xs)
  | [], x => by simp
  | y :: ys, x => by
    have ih := any_nn ys x
    simp only [List.map_cons, List.any_cons, eqv_int, ih, List.mem_cons, Bool.decide_or]
    congr 1
    by_cases h : y = x
    · subst h; simp
    · rw [beq_eq_false_iff_ne.mpr h, decide_eq_false (fun z => h z.symm)]
theorem plain_ints : ∀ xs : List Int, PyData.plainAll (xs.map PyData.int) = true ∧ PyData.depthAll (xs.map PyData.int) = 0
  | [] => ⟨rfl, rfl⟩
  | x :: xs => by
    obtain ⟨h1, h2⟩ := plain_ints xs
    exact ⟨by simp only [List.map_cons, PyData.plainAll, PyData.plain, h1, Bool.and_self], by simp only [List.map_cons, PyData.depthAll, PyData.depth, h2]; rfl⟩
theorem okAll_ints (xs : List Int) : okAll (xs.map PyData.int) = true := by
  rw [okAll_iff]
  exact ⟨(plain_ints xs).1, by rw [(plain_ints xs).2]; decide⟩
theorem okD_tup_ints (xs : List Int) : okD (.tuple (xs.map PyData.int)) = true := by
  rw [okD_iff]
  exact ⟨by simp only [PyData.plain]; exact (plain_ints xs).1, by simp only [PyData.depth, (plain_ints xs).2]; decide⟩
theorem eqvAll_ints : ∀ xs ys : List Int, PyData.eqvAll (xs.map PyData.int) (ys.map PyData.int) = decide (xs = ys)
  | [], [] => rfl
  | [], _ :: _ => rfl
  | _ :: _, [] => rfl
  | x :: xs, y :: ys => by
    simp only [List.map_cons, PyData.eqvAll, eqv_int, eqvAll_ints xs ys]
    by_cases h : x = y
    · subst h
      by_cases h2 : xs = ys
      · subst h2; simp
      · simp [h2]
    · simp [h]
theorem map_filter_d (p : T → Bool) (q : PyData → Bool) (h : ∀ x, p (.d x) = q x) (xs : List PyData) : ((xs.map T.d).filter p) = (xs.filter q).map T.d := by
  rw [List.filter_map]
  congr 1
  exact List.filter_congr fun x _ => h x
/-! ### texts are not too long -/
mutual
/-- how long what repr shows may be, at most; ints within ten digits -/
def cost : PyData → Nat
  | .none => 4
  | .bool _ => 5
  | .int _ => 12
  | .str x => 10 * x.length + 12
  | .list xs => costs xs + 4
  | .tuple xs => costs xs + 4
  | .dict _ => 0
def costs : List PyData → Nat
  | [] => 0
  | x :: xs => cost x + 2 + costs xs
end
end DL
set_option maxRecDepth 100000
set_option maxHeartbeats 1000000
/-! DL: data that every guard lets through -/
namespace DL
open PySem
mutual
/-- no dict, small ints, signs that can be shown; k is a bound of depth -/
def fine : Nat → PyData → Bool
  | _, .none => true
  | _, .bool _ => true
  | _, .int i => decide (i.natAbs < 10 ^ 9)
  | _, .str x => x.cps.toList.all fun c => decide (c < 16 ^ 8)
  | k + 1, .list xs => fineAll k xs
  | k + 1, .tuple xs => fineAll k xs
  | _, _ => false
def fineAll : Nat → List PyData → Bool
  | _, [] => true
  | k, x :: xs => fine k x && fineAll k xs
end
theorem fineAll_iff {k : Nat} : ∀ {xs : List PyData}, fineAll k xs = true ↔ ∀ x ∈ xs, fine k x = true
  | [] => by simp [fineAll]
  | x :: xs => by simp [fineAll, fineAll_iff (xs := xs)]
mutual
theorem fine_facts : ∀ (x : PyData) (k : Nat), fine k x = true → x.plain = true ∧ x.depth ≤ k ∧ x.showable = true ∧ x.hasDict = false ∧ x.leavesShort 13 = true
  | .none, k, _ => ⟨rfl, Nat.zero_le _, rfl, rfl, rfl⟩
  | .bool _, k, _ => ⟨rfl, Nat.zero_le _, rfl, rfl, rfl⟩
  | .int i, k, h => by
    have h' : i.natAbs < 10 ^ 9 := by cases k <;> simpa [fine] using h
    refine ⟨rfl, Nat.zero_le _, ?_, rfl, ?_⟩
    · simp only [PyData.showable, decide_eq_true_eq]
      by_cases h0 : i.natAbs = 0
      · rw [h0]; decide
      · have := (Nat.log2_lt (k := 30) h0).mpr (Nat.lt_trans h' (by decide))
        omega
    · have := int_text_length_le10 (a := i) (k := 9) (by decide) h'
      show decide ((Str.ofString (toString i)).length ≤ 13) = true
      rw [decide_eq_true_eq]
      rw [ofString_length]
      omega
  | .str x, k, h => by
    refine ⟨rfl, Nat.zero_le _, rfl, rfl, ?_⟩
    cases k <;> simpa [fine, PyData.leavesShort] using h
  | .list xs, 0, h => by simp [fine] at h
  | .tuple xs, 0, h => by simp [fine] at h
  | .list xs, k + 1, h => by
    obtain ⟨h1, h2, h3, h4, h5⟩ := fineAll_facts xs k (by simpa [fine] using h)
    exact ⟨h1, Nat.succ_le_succ h2, h3, h4, h5⟩
  | .tuple xs, k + 1, h => by
    obtain ⟨h1, h2, h3, h4, h5⟩ := fineAll_facts xs k (by simpa [fine] using h)
    exact ⟨h1, Nat.succ_le_succ h2, h3, h4, h5⟩
  | .dict _, k, h => by cases k <;> simp [fine] at h
theorem fineAll_facts : ∀ (xs : List PyData) (k : Nat), fineAll k xs = true → PyData.plainAll xs = true ∧ PyData.depthAll xs ≤ k ∧ PyData.showableAll xs = true ∧ PyData.hasDictAll xs = false ∧ PyData.leavesShortAll 13 xs = true
  | [], k, _ => ⟨rfl, Nat.zero_le _, rfl, rfl, rfl⟩
  | x :: xs, k, h => by
    simp only [fineAll, Bool.and_eq_true] at h
    obtain ⟨a1, a2, a3, a4, a5⟩ := fine_facts x k h.1
    obtain ⟨b1, b2, b3, b4, b5⟩ := fineAll_facts xs k h.2
    refine ⟨?_, ?_, ?_, ?_, ?_⟩
    · simp only [PyData.plainAll, a1, b1, Bool.and_self]
    · simp only [PyData.depthAll]; omega
    · simp only [PyData.showableAll, a3, b3, Bool.and_self]
    · simp only [PyData.hasDictAll, a4, b4, Bool.or_self]
    · simp only [PyData.leavesShortAll, a5, b5, Bool.and_self]
end
theorem okD_fine {k : Nat} {x : PyData} (hk : k ≤ 60) (h : fine k x = true) : okD x = true := by
  obtain ⟨h1, h2, _⟩ := fine_facts x k h
  exact okD_iff.mpr ⟨h1, by omega⟩
theorem okAll_fine {k : Nat} {xs : List PyData} (hk : k ≤ 60) (h : fineAll k xs = true) : okAll xs = true := by
  obtain ⟨h1, h2, _⟩ := fineAll_facts xs k h
  exact okAll_iff.mpr ⟨h1, by omega⟩
theorem okS_fine {k : Nat} {x : PyData} (hk : k ≤ 60) (h : fine k x = true) (hb : x.bulk ≤ 1048576) : okS x = true := by
  obtain ⟨h1, h2, h3, h4, h5⟩ := fine_facts x k h
  have h6 := PyData.shown_fits_bulk (B := 13) (by decide) (by decide) h5 (by simpa using hb)
  simp only [okS, h3, h4, Bool.not_false, Bool.and_self, Bool.true_and, Bool.and_eq_true, decide_eq_true_eq]
  exact ⟨by omega, h6⟩
theorem bulkAll_le {B : Nat} : ∀ {xs : List PyData}, (∀ x ∈ xs, x.bulk ≤ B) → PyData.bulkAll xs ≤ xs.length * (B + 1)
  | [], _ => by simp [PyData.bulkAll]
  | x :: xs, h => by
    have h1 := h x List.mem_cons_self
    have h2 := bulkAll_le (xs := xs) fun y hy => h y (List.mem_cons_of_mem _ hy)
    simp only [PyData.bulkAll, List.length_cons, Nat.succ_mul]
    omega
theorem fineAll_ints {k : Nat} {xs : List Int} (h : ∀ x ∈ xs, -1000000000 < x ∧ x < 1000000000) : fineAll k (xs.map PyData.int) = true := by
  rw [fineAll_iff]
  intro x hx
  obtain ⟨i, hi, rfl⟩ := List.mem_map.mp hx
  have := h i hi
  cases k <;> simp only [fine, decide_eq_true_eq] <;> omega
theorem bulk_ints : ∀ (xs : List Int), PyData.bulkAll (xs.map PyData.int) = xs.length
  | [] => rfl
  | x :: xs => by simp only [List.map_cons, PyData.bulkAll, PyData.bulk, bulk_ints xs, List.length_cons]; omega
theorem fine_tup {k : Nat} {xs : List PyData} : fine (k + 1) (.tuple xs) = fineAll k xs := rfl
theorem fine_lst {k : Nat} {xs : List PyData} : fine (k + 1) (.list xs) = fineAll k xs := rfl
end DL
set_option maxRecDepth 100000
set_option maxHeartbeats 1000000
/-! DL: comprehensions and loops as wholes -/
namespace DL
open PySem
theorem lComp_pure {it : FI} {vs : List Nat} {g : FG} {tt : FB} {te : FV} {st st1 : M} {ts : List T} (hi : it st = some (ts, st1)) (p : T → Bool) (φ : T → PyData)
    (h : ∀ t ∈ ts, ∃ s1 s2, g t (st1.wipe vs) = some s1 ∧ tt s1 = some (p t, s2) ∧ (p t = false → st1.back s2 vs = st1) ∧ (p t = true → ∃ s3, te s2 = some (.d (φ t), s3) ∧ st1.back s3 vs = st1)) :
    lComp it vs g tt te st = some ((ts.filter p).map φ, st1) := by
  unfold lComp
  rw [hi]
  have := lc_pure p φ (ts := ts) [] h
  simpa using this
theorem lComp_drawn {it : FI} {vs : List Nat} {g : FG} {tt : FB} {te : FV} {st : M} {ρ : List (Option Sl)} {dk : Dk} {ts : List T} (hi : it st = some (ts, ⟨ρ, dk⟩)) (φ : T → PyData)
    (h : ∀ t ∈ ts, ∀ dk, ∃ s1 b s2, g t ((⟨ρ, dk⟩ : M).wipe vs) = some s1 ∧ tt s1 = some (b, s2) ∧ (b = false → ∃ dk', (⟨ρ, dk⟩ : M).back s2 vs = ⟨ρ, dk'⟩) ∧ (b = true → ∃ s3 dk', te s2 = some (.d (φ t), s3) ∧ (⟨ρ, dk⟩ : M).back s3 vs = ⟨ρ, dk'⟩)) :
    ∃ (us : List T) (dk' : Dk), us.Sublist ts ∧ lComp it vs g tt te st = some (us.map φ, ⟨ρ, dk'⟩) := by
  obtain ⟨us, dk', h1, h2⟩ := lc_drawn φ dk [] h
  refine ⟨us, dk', h1, ?_⟩
  unfold lComp
  rw [hi]
  simpa using h2
theorem lComp2_pure {it : FI} {vs vs1 : List Nat} {g g1 : FG} {it1 : FI} {te : FV} {st st1 : M} {ts : List T} (hi : it st = some (ts, st1)) (φ : T → List PyData) (hl : (ts.map fun t => (φ t).length).sum ≤ 16777216)
    (h : ∀ t ∈ ts, ∃ s1 us s2 s3, g t (st1.wipe vs) = some s1 ∧ it1 s1 = some (us, s2) ∧ (∀ acc : List PyData, acc.length + (φ t).length ≤ 16777216 → lc2In vs1 g1 bYes te us s2 acc = some (acc ++ φ t, s3)) ∧ st1.back s3 vs = st1) :
    lComp2 it vs g bYes it1 vs1 g1 bYes te st = some (ts.flatMap φ, st1) := by
  unfold lComp2
  rw [hi]
  have := lc2_pure φ (ts := ts) [] (by simpa using hl) h
  simpa using this
theorem sFor_inv {it : FI} {g : FG} {body : FS} {st st1 : M} {ts : List T} (hi : it st = some (ts, st1)) (I : Nat → M → Prop) (h0 : I 0 st1)
    (h : ∀ i t st, ts[i]? = some t → I i st → ∃ s1 fl s2, g t st = some s1 ∧ body s1 = some (fl, s2) ∧ (fl = .nx ∨ fl = .ct) ∧ I (i + 1) s2) : ∃ st', sFor it g body st = some (.nx, st') ∧ I ts.length st' := by
  obtain ⟨st', h1, h2⟩ := for_inv I (k := 0) (ts := ts) h0 fun i t st hu hI => by simpa using h i t st hu (by simpa using hI)
  refine ⟨st', ?_, by simpa using h2⟩
  unfold sFor
  rw [hi]
  exact h1
theorem okR_t {i : Int} (h : -8388608 ≤ i) (h' : i ≤ 8388608) : okR i = true := okR_iff.mpr ⟨h, h'⟩
@[simp] theorem atI_0 (x : PyData) (xs : List PyData) : L2.atI (x :: xs) 0 = some x := L2.atI_nat (j := 0) rfl
@[simp] theorem atI_1 (x y : PyData) (xs : List PyData) : L2.atI (x :: y :: xs) 1 = some y := L2.atI_nat (j := 1) rfl
@[simp] theorem atI_2 (x y z : PyData) (xs : List PyData) : L2.atI (x :: y :: z :: xs) 2 = some z := L2.atI_nat (j := 2) rfl
/-- the whole numbers from lo, n of them -/
def up (lo : Int) (n : Nat) : List Int := (List.range n).map fun i => lo + (i : Nat)
theorem rgD_up (lo : Int) (n : Nat) : rgD lo n = (up lo n).map fun i => T.d (.int i) := by simp [rgD, up, Function.comp_def]
theorem mem_up {lo : Int} {n : Nat} {x : Int} : x ∈ up lo n ↔ lo ≤ x ∧ x < lo + n := by
  simp only [up, List.mem_map, List.mem_range]
  constructor
  · rintro ⟨i, hi, rfl⟩; omega
  · intro h; exact ⟨(x - lo).toNat, by omega, by omega⟩
theorem up_asc (lo : Int) (n : Nat) : (up lo n).Pairwise (· < ·) := by
  unfold up
  rw [List.pairwise_map]
  exact List.pairwise_lt_range.imp fun h => by omega
@[simp] theorem up_len (lo : Int) (n : Nat) : (up lo n).length = n := by simp [up]
theorem up_get {lo : Int} {n i : Nat} {t : T} (h : (rgD lo n)[i]? = some t) : i < n ∧ t = .d (.int (lo + i)) := by
  have hi : i < n := by
    have := (List.getElem?_eq_some_iff.mp h).1
    simpa [rgD] using this
  refine ⟨hi, ?_⟩
  simp [rgD, hi] at h
  exact h.symm
/-- a row drawn from a row of data -/
theorem sub_ints {us : List T} {xs : List Int} (h : us.Sublist (xs.map fun i => T.d (.int i))) : ∃ ys : List Int, ys.Sublist xs ∧ us = ys.map fun i => T.d (.int i) := by
  obtain ⟨ys, h1, h2⟩ := List.sublist_map_iff.mp h
  exact ⟨ys, h1, h2⟩
def dat : T → PyData
  | .d x => x
  | .deck => .none
@[simp] theorem dat_d (x : PyData) : dat (.d x) = x := rfl
theorem map_dat_ints (xs : List Int) : (xs.map fun i => T.d (.int i)).map dat = xs.map PyData.int := by simp [Function.comp_def]
theorem lComp_ints {it : FI} {vs : List Nat} {g : FG} {tt : FB} {te : FV} {st st1 : M} {xs : List Int} (hi : it st = some (xs.map fun i => T.d (.int i), st1)) (p : Int → Bool) (φ : Int → PyData)
    (h : ∀ x ∈ xs, ∃ s1 s2, g (.d (.int x)) (st1.wipe vs) = some s1 ∧ tt s1 = some (p x, s2) ∧ (p x = false → st1.back s2 vs = st1) ∧ (p x = true → ∃ s3, te s2 = some (.d (φ x), s3) ∧ st1.back s3 vs = st1)) :
    lComp it vs g tt te st = some ((xs.filter p).map φ, st1) := by
  have := lComp_pure (te := te) (tt := tt) (g := g) (vs := vs) hi (fun | .d (.int x) => p x | _ => false) (fun | .d (.int x) => φ x | _ => .none) (fun t ht => by
    obtain ⟨x, hx, rfl⟩ := List.mem_map.mp ht
    exact h x hx)
  rw [this, List.filter_map, List.map_map]
  rfl
theorem lComp_drawnI {it : FI} {vs : List Nat} {g : FG} {tt : FB} {te : FV} {st : M} {ρ : List (Option Sl)} {dk : Dk} {xs : List Int} (hi : it st = some (xs.map fun i => T.d (.int i), ⟨ρ, dk⟩)) (φ : Int → PyData)
    (h : ∀ x ∈ xs, ∀ dk, ∃ s1 b s2, g (.d (.int x)) ((⟨ρ, dk⟩ : M).wipe vs) = some s1 ∧ tt s1 = some (b, s2) ∧ (b = false → ∃ dk', (⟨ρ, dk⟩ : M).back s2 vs = ⟨ρ, dk'⟩) ∧ (b = true → ∃ s3 dk', te s2 = some (.d (φ x), s3) ∧ (⟨ρ, dk⟩ : M).back s3 vs = ⟨ρ, dk'⟩)) :
    ∃ (ys : List Int) (dk' : Dk), ys.Sublist xs ∧ lComp it vs g tt te st = some (ys.map φ, ⟨ρ, dk'⟩) := by
  obtain ⟨us, dk', h1, h2⟩ := lComp_drawn (te := te) (tt := tt) (g := g) (vs := vs) hi (fun | .d (.int x) => φ x | _ => .none) (fun t ht dk => by
    obtain ⟨x, hx, rfl⟩ := List.mem_map.mp ht
    exact h x hx dk)
  obtain ⟨ys, h3, rfl⟩ := sub_ints h1
  exact ⟨ys, dk', h3, by rw [h2, List.map_map]; rfl⟩
theorem sFor_up {it : FI} {g : FG} {body : FS} {st st1 : M} {lo : Int} {n : Nat} (hi : it st = some (rgD lo n, st1)) (I : Nat → M → Prop) (h0 : I 0 st1)
    (h : ∀ i : Nat, i < n → ∀ st, I i st → ∃ s2, (g (.d (.int (lo + i))) st).bind body = some (.nx, s2) ∧ I (i + 1) s2) : ∃ st', sFor it g body st = some (.nx, st') ∧ I n st' := by
  have := sFor_inv (g := g) (body := body) hi I h0 fun i t st hu hI => by
    obtain ⟨h1, rfl⟩ := up_get hu
    obtain ⟨s2, h2, h3⟩ := h i h1 st hI
    cases e : g (T.d (.int (lo + i))) st with
    | none => rw [e] at h2; cases h2
    | some s1 =>
      rw [e] at h2
      exact ⟨s1, _, s2, rfl, h2, .inl rfl, h3⟩
  simpa [rgD] using this
theorem flat_rows {α β : Type} (f : α → List β) (B : Nat) : ∀ xs : List α, (∀ x ∈ xs, (f x).length ≤ B) → (xs.flatMap f).length ≤ xs.length * B
  | [], _ => by simp
  | x :: xs, h => by
    have h1 := h x List.mem_cons_self
    have h2 := flat_rows f B xs fun y hy => h y (List.mem_cons_of_mem _ hy)
    simp only [List.flatMap_cons, List.length_append, List.length_cons, Nat.succ_mul]
    omega
theorem lComp2_ints {it : FI} {vs vs1 : List Nat} {g g1 : FG} {it1 : FI} {te : FV} {st st1 : M} {xs : List Int} (hi : it st = some (xs.map fun i => T.d (.int i), st1)) (ψ : Int → List Int) (φ : Int → Int → PyData) (hl : (xs.flatMap ψ).length ≤ 16777216)
    (h : ∀ x ∈ xs, ∃ s1 s2, g (.d (.int x)) (st1.wipe vs) = some s1 ∧ it1 s1 = some ((ψ x).map fun i => T.d (.int i), s2) ∧ st1.back s2 vs = st1 ∧ ∀ y ∈ ψ x, ∃ s3 s4, g1 (.d (.int y)) (s2.wipe vs1) = some s3 ∧ te s3 = some (.d (φ x y), s4) ∧ s2.back s4 vs1 = s2) :
    lComp2 it vs g bYes it1 vs1 g1 bYes te st = some (xs.flatMap fun x => (ψ x).map (φ x), st1) := by
  have h0 : (((xs.map fun i => T.d (.int i)).map fun t => ((fun | .d (.int x) => (ψ x).map (φ x) | _ => [] : T → List PyData) t).length)).sum ≤ 16777216 := by
    rw [List.map_map]
    simpa [List.length_flatMap, Function.comp_def] using hl
  have := lComp2_pure (te := te) (g := g) (vs := vs) (vs1 := vs1) (g1 := g1) (it1 := it1) hi (fun | .d (.int x) => (ψ x).map (φ x) | _ => []) h0 (fun t ht => by
    obtain ⟨x, hx, rfl⟩ := List.mem_map.mp ht
    obtain ⟨s1, s2, h1, h2, h3, h4⟩ := h x hx
    refine ⟨s1, _, s2, s2, h1, h2, fun acc ha => ?_, h3⟩
    have := lc2In_pure (te := te) (g := g1) (vs := vs1) (st := s2) (fun | .d (.int y) => φ x y | _ => .none) (ts := (ψ x).map fun i => T.d (.int i)) acc (by simpa using ha) (fun u hu => by
      obtain ⟨y, hy, rfl⟩ := List.mem_map.mp hu
      exact h4 y hy)
    rw [this, List.map_map]
    rfl)
  rw [this, List.flatMap_map]
theorem seq_nx {f g : FS} {st s1 : M} (h : f st = some (.nx, s1)) : sSeq f g st = g s1 := by simp [h]
theorem asg_nx {f : FV} {g : FG} {st s1 s2 : M} {t : T} (h : f st = some (t, s1)) (h2 : g t s1 = some s2) : sAsg f g st = some (.nx, s2) := by simp [h, h2]
theorem body_rt {n : Nat} {body : FS} {ts : List T} {dk : Dk} {t : T} {s : M} (h : body ⟨ts.map (fun t => some (.val t)) ++ List.replicate (n - ts.length) none, dk⟩ = some (.rt t, s)) : bodyF n body ts dk = some (t, s.dk) := by simp [h]
theorem body_ex {n : Nat} {body : FS} {ts : List T} {dk dk' : Dk} {t : T} (h : ∃ ρ, body ⟨ts.map (fun t => some (.val t)) ++ List.replicate (n - ts.length) none, dk⟩ = some (.rt t, ⟨ρ, dk'⟩)) : bodyF n body ts dk = some (t, dk') := by
  obtain ⟨ρ, h⟩ := h
  simp [h]
theorem seq_ex {f g : FS} {st s1 : M} {r : Fl} {dk' : Dk} (h : f st = some (.nx, s1)) (h2 : ∃ ρ, g s1 = some (r, ⟨ρ, dk'⟩)) : ∃ ρ, sSeq f g st = some (r, ⟨ρ, dk'⟩) := by
  obtain ⟨ρ, h2⟩ := h2
  exact ⟨ρ, by simp [h, h2]⟩
theorem any_nn2 (xs : List Int) (x : Int) : (xs.any ((fun y => PyData.eqv y (.int x)) ∘ PyData.int)) = decide (x ∈ xs) := by
  rw [← any_nn, List.any_map]
theorem asc_len {b : Int} : ∀ {A : List Int} {lo : Int}, A.Pairwise (· < ·) → (∀ x ∈ A, lo < x ∧ x < b) → lo < b → (A.length : Int) ≤ b - lo - 1
  | [], lo, _, _, h => by simp; omega
  | x :: A, lo, h1, h2, h3 => by
    have hx := h2 x List.mem_cons_self
    rw [List.pairwise_cons] at h1
    have := asc_len (A := A) (lo := x) h1.2 (fun y hy => ⟨h1.1 y hy, (h2 y (List.mem_cons_of_mem _ hy)).2⟩) hx.2
    simp only [List.length_cons]
    omega
end DL
set_option maxRecDepth 100000
set_option maxHeartbeats 400000
namespace Lw
open PySem PySem.Spec PyProof.Rows L2 DL
/-! ### the text -/
def topS (i : Nat) : Stmt := PySem.Challenge.pw_keptarcs_k08_arcs_within_arcs.main.body.getD i (.Pass ⟨0, 0, 0, 0⟩)
abbrev s__law_deck : Stmt := topS 17
abbrev N__law_deck : List Str := ["script", "mixed", "cell"]
theorem sc__law_deck : FnScope N__law_deck ["script"] (defScope s__law_deck) := ⟨rfl, rfl, rfl, by decide +kernel, rfl, by decide +kernel, by decide +kernel⟩
abbrev s__law_draw : Stmt := topS 18
abbrev N__law_draw : List Str := ["deck", "many", "number", "cell"]
theorem sc__law_draw : FnScope N__law_draw ["deck", "many"] (defScope s__law_draw) := ⟨rfl, rfl, rfl, by decide +kernel, rfl, by decide +kernel, by decide +kernel⟩
abbrev s__law_pick : Stmt := topS 19
abbrev N__law_pick : List Str := ["deck", "some"]
theorem sc__law_pick : FnScope N__law_pick ["deck", "some"] (defScope s__law_pick) := ⟨rfl, rfl, rfl, by decide +kernel, rfl, by decide +kernel, by decide +kernel⟩
abbrev s__law_arc : Stmt := topS 20
abbrev N__law_arc : List Str := ["deck", "n", "a", "b", "few", "x"]
theorem sc__law_arc : FnScope N__law_arc ["deck", "n"] (defScope s__law_arc) := ⟨rfl, rfl, rfl, by decide +kernel, rfl, by decide +kernel, by decide +kernel⟩
abbrev s__law_within : Stmt := topS 21
abbrev N__law_within : List Str := ["arc", "a", "b", "ahead", "found", "c", "d", "x"]
theorem sc__law_within : FnScope N__law_within ["arc"] (defScope s__law_within) := ⟨rfl, rfl, rfl, by decide +kernel, rfl, by decide +kernel, by decide +kernel⟩
abbrev s_is_integer : Stmt := topS 4
abbrev N_is_integer : List Str := ["thing"]
theorem sc_is_integer : FnScope N_is_integer ["thing"] (defScope s_is_integer) := ⟨rfl, rfl, rfl, by decide +kernel, rfl, by decide +kernel, by decide +kernel⟩
abbrev s_is_between : Stmt := topS 5
abbrev N_is_between : List Str := ["thing", "least", "most"]
theorem sc_is_between : FnScope N_is_between ["thing", "least", "most"] (defScope s_is_between) := ⟨rfl, rfl, rfl, by decide +kernel, rfl, by decide +kernel, by decide +kernel⟩
abbrev s_is_arc_value : Stmt := topS 7
abbrev N_is_arc_value : List Str := ["n", "thing", "number", "one", "other"]
theorem sc_is_arc_value : FnScope N_is_arc_value ["n", "thing"] (defScope s_is_arc_value) := ⟨rfl, rfl, rfl, by decide +kernel, rfl, by decide +kernel, by decide +kernel⟩
abbrev s_need_arc : Stmt := topS 8
abbrev N_need_arc : List Str := ["n", "arc"]
theorem sc_need_arc : FnScope N_need_arc ["n", "arc"] (defScope s_need_arc) := ⟨rfl, rfl, rfl, by decide +kernel, rfl, by decide +kernel, by decide +kernel⟩
abbrev s_part_of : Stmt := topS 11
abbrev N_part_of : List Str := ["arc", "c", "d", "number"]
theorem sc_part_of : FnScope N_part_of ["arc", "c", "d"] (defScope s_part_of) := ⟨rfl, rfl, rfl, by decide +kernel, rfl, by decide +kernel, by decide +kernel⟩
abbrev s_within : Stmt := topS 12
abbrev N_within : List Str := ["arc", "a", "b", "c", "d"]
theorem sc_within : FnScope N_within ["arc"] (defScope s_within) := ⟨rfl, rfl, rfl, by decide +kernel, rfl, by decide +kernel, by decide +kernel⟩
abbrev s_arcs_within : Stmt := topS 14
abbrev N_arcs_within : List Str := ["n", "arc"]
theorem sc_arcs_within : FnScope N_arcs_within ["n", "arc"] (defScope s_arcs_within) := ⟨rfl, rfl, rfl, by decide +kernel, rfl, by decide +kernel, by decide +kernel⟩
abbrev s__law_near : Stmt := topS 23
abbrev N__law_near : List Str := ["deck", "arc", "n", "a", "b", "ahead", "way", "x", "y"]
theorem sc__law_near : FnScope N__law_near ["deck", "arc", "n"] (defScope s__law_near) := ⟨rfl, rfl, rfl, by decide +kernel, rfl, by decide +kernel, by decide +kernel⟩
abbrev s__law_lies : Stmt := topS 22
abbrev N__law_lies : List Str := ["one", "other", "c", "d", "some", "x"]
theorem sc__law_lies : FnScope N__law_lies ["one", "other"] (defScope s__law_lies) := ⟨rfl, rfl, rfl, by decide +kernel, rfl, by decide +kernel, by decide +kernel⟩
abbrev s_need_arcs : Stmt := topS 9
abbrev N_need_arcs : List Str := ["n", "one", "other"]
theorem sc_need_arcs : FnScope N_need_arcs ["n", "one", "other"] (defScope s_need_arcs) := ⟨rfl, rfl, rfl, by decide +kernel, rfl, by decide +kernel, by decide +kernel⟩
abbrev s_is_within : Stmt := topS 10
abbrev N_is_within : List Str := ["one", "other", "c", "d", "some", "number"]
theorem sc_is_within : FnScope N_is_within ["one", "other"] (defScope s_is_within) := ⟨rfl, rfl, rfl, by decide +kernel, rfl, by decide +kernel, by decide +kernel⟩
abbrev s_lies_within : Stmt := topS 15
abbrev N_lies_within : List Str := ["n", "one", "other"]
theorem sc_lies_within : FnScope N_lies_within ["n", "one", "other"] (defScope s_lies_within) := ⟨rfl, rfl, rfl, by decide +kernel, rfl, by decide +kernel, by decide +kernel⟩
abbrev s_law : Stmt := topS 24
abbrev N_law : List Str := ["script", "deck", "turn", "n", "arc", "text", "due", "told", "look", "one", "other", "right", "some"]
theorem sc_law : FnScope N_law ["script"] (defScope s_law) := ⟨rfl, rfl, rfl, by decide +kernel, rfl, by decide +kernel, by decide +kernel⟩
/-! ### what the defs reckon -/
def b__law_draw : FS :=
    (sSeq (sDraws (b2 (dkOf (vVar 0) fun dk => .int dk.draws) (cV (.d (.int 1))) fAdd) (vVar 0))
    (sSeq (sAsg (b2 (dkOf (vVar 0) fun dk => .int dk.mixed) (b2 (cV (.d (.int 69621))) (dkOf (vVar 0) fun dk => .int dk.draws) fMul) fAdd) (gSet 2))
    (sSeq (sIf (bCells (vVar 0)) (sSeq (sAsg (vCellsPop (vVar 0)) (gSet 3))
    (sSeq (sIf (tBool (b2 (vVar 3) (b2 (cV (.d (.int 10))) (cV (.d (.int 18))) fPow) fGe)) (sSeq (sCellsApp (vVar 0) (b2 (vVar 3) (vCall (aCons (cV (.d (.int 2))) (aCons (vVar 1) aNil)) fMax2) fDiv))
    (sRet (b2 (vCall (aCons (vVar 3) aNil) fInt) (vVar 1) fMod))) sNil)
    (sAsg (b2 (vVar 2) (b2 (vCall (aCons (vVar 3) aNil) fInt) (cV (.d (.int 2147483629))) fMod) fAdd) (gSet 2)))) sNil)
    (sSeq (sAsg (b2 (vCall (aCons (b2 (b2 (vVar 2) (cV (.d (.int 39373))) fMul) (cV (.d (.int 83))) fAdd) aNil) fInt) (cV (.d (.int 2147483647))) fMod) (gSet 2))
    (sSeq (sAsg (b2 (vCall (aCons (b2 (b2 (b2 (vVar 2) (vVar 2) fMul) (b2 (cV (.d (.int 52713))) (dkOf (vVar 0) fun dk => .int dk.draws) fMul) fAdd) (cV (.d (.int 29))) fAdd) aNil) fInt) (cV (.d (.int 2147483587))) fMod) (gSet 2))
    (sSeq (sAsg (b2 (vCall (aCons (b2 (vVar 2) (cV (.d (.int 40692))) fMul) aNil) fInt) (cV (.d (.int 2147483563))) fMod) (gSet 2))
    (sRet (b2 (vCall (aCons (b2 (vVar 2) (cV (.d (.int 64))) fDiv) aNil) fInt) (vVar 1) fMod))))))))
def f__law_draw : FF := bodyF 4 b__law_draw
def b__law_pick : FS :=
    (sRet (b2 (vVar 1) (vDef (aCons (vVar 0) (aCons (vCall (aCons (vVar 1) aNil) fLen) aNil)) 2 f__law_draw) fIdx))
def f__law_pick : FF := bodyF 2 b__law_pick
def c1__law_arc : FL :=
    lComp (iRange2 (aCons (b2 (vVar 2) (cV (.d (.int 1))) fAdd) (aCons (vVar 3) aNil))) [5] (gSet 5) (bOr (tBool (b2 (vVar 4) (cV (.d (.int 0))) fEq)) (bAnd (tBool (b2 (vVar 4) (cV (.d (.int 1))) fGt)) (tBool (b2 (vDef (aCons (vVar 0) (aCons (cV (.d (.int 2))) aNil)) 2 f__law_draw) (cV (.d (.int 0))) fEq)))) (vVar 5)
def b__law_arc : FS :=
    (sSeq (sAsg (b2 (cV (.d (.int 1))) (vDef (aCons (vVar 0) (aCons (b2 (vVar 1) (cV (.d (.int 1))) fSub) aNil)) 2 f__law_draw) fAdd) (gSet 2))
    (sSeq (sAsg (vDef (aCons (vVar 0) (aCons (vOfL (lDisp (aCons (vVar 1) (aCons (b2 (b2 (vVar 2) (cV (.d (.int 1))) fAdd) (vDef (aCons (vVar 0) (aCons (b2 (vVar 1) (vVar 2) fSub) aNil)) 2 f__law_draw) fAdd) (aCons (b2 (b2 (vVar 2) (cV (.d (.int 1))) fAdd) (vDef (aCons (vVar 0) (aCons (b2 (vVar 1) (vVar 2) fSub) aNil)) 2 f__law_draw) fAdd) aNil))))) aNil)) 2 f__law_pick) (gSet 3))
    (sSeq (sAsg (vDef (aCons (vVar 0) (aCons (cV (.d (.int 5))) aNil)) 2 f__law_draw) (gSet 4))
    (sRet (vTup (aCons (vVar 2) (aCons (vVar 3) (aCons (vCall (aCons (vOfL c1__law_arc) aNil) fTuple) aNil))))))))
def f__law_arc : FF := bodyF 6 b__law_arc
def c1__law_within : FL :=
    lComp (iSeq (vVar 3)) [7] (gSet 7) (tBool (vChain (vVar 5) (vVar 7) (vVar 6) fLt fLt)) (vVar 7)
def lb1__law_within : FS :=
    (sAppend 4 (vTup (aCons (vVar 5) (aCons (vVar 6) (aCons (vCall (aCons (vOfL c1__law_within) aNil) fTuple) aNil)))))
def l1__law_within : FS :=
    sFor (iRange2 (aCons (b2 (vVar 5) (cV (.d (.int 1))) fAdd) (aCons (b2 (vVar 2) (cV (.d (.int 1))) fAdd) aNil))) (gSet 6) lb1__law_within
def lb2__law_within : FS :=
    l1__law_within
def l2__law_within : FS :=
    sFor (iRange2 (aCons (vVar 1) (aCons (vVar 2) aNil))) (gSet 5) lb2__law_within
def b__law_within : FS :=
    (sSeq (sAsg (vVar 0) (gUnpack 3 (gsCons (gSet 1) (gsCons (gSet 2) (gsCons (gSet 3) gsNil)))))
    (sSeq (sOwn 4 (lDisp aNil))
    (sSeq l2__law_within
    (sRet (vCall (aCons (vOfL (lCall (aCons (vFrz 4) aNil) fSorted)) aNil) fTuple)))))
def f__law_within : FF := bodyF 8 b__law_within
def b_is_integer : FS :=
    (sRet (vAnd (b1 (vVar 0) (fIsa Ty.int)) (vOfB (bNot (tBool (b1 (vVar 0) (fIsa Ty.bool)))))))
def f_is_integer : FF := bodyF 1 b_is_integer
def b_is_between : FS :=
    (sRet (vAnd (vDef (aCons (vVar 0) aNil) 1 f_is_integer) (vChain (vVar 1) (vVar 0) (vVar 2) fLe fLe)))
def f_is_between : FF := bodyF 3 b_is_between
def c1_is_arc_value : FL :=
    lComp (iSeq (b2 (vVar 1) (cV (.d (.int 2))) fIdx)) [2] (gSet 2) bYes (vDef (aCons (vVar 2) (aCons (b2 (b2 (vVar 1) (cV (.d (.int 0))) fIdx) (cV (.d (.int 1))) fAdd) (aCons (b2 (b2 (vVar 1) (cV (.d (.int 1))) fIdx) (cV (.d (.int 1))) fSub) aNil))) 3 f_is_between)
def c2_is_arc_value : FL :=
    lComp (iZipD (aCons (b2 (vVar 1) (cV (.d (.int 2))) fIdx) (aCons (vSlice (b2 (vVar 1) (cV (.d (.int 2))) fIdx) (oSome (cV (.d (.int 1)))) oNone) aNil))) [3, 4] (gUnpack 2 (gsCons (gSet 3) (gsCons (gSet 4) gsNil))) bYes (b2 (vVar 3) (vVar 4) fLt)
def b_is_arc_value : FS :=
    (sSeq (sIf (bOr (bNot (tBool (b1 (vVar 1) (fIsa Ty.tuple)))) (bOr (tBool (b2 (vCall (aCons (vVar 1) aNil) fLen) (cV (.d (.int 3))) fNe)) (bNot (tBool (vDef (aCons (b2 (vVar 1) (cV (.d (.int 0))) fIdx) (aCons (cV (.d (.int 1))) (aCons (vVar 0) aNil))) 3 f_is_between))))) (sRet (cV (.d (.bool false)))) sNil)
    (sSeq (sIf (bOr (bNot (tBool (vDef (aCons (b2 (vVar 1) (cV (.d (.int 1))) fIdx) (aCons (b2 (b2 (vVar 1) (cV (.d (.int 0))) fIdx) (cV (.d (.int 1))) fAdd) (aCons (vVar 0) aNil))) 3 f_is_between))) (bNot (tBool (b1 (b2 (vVar 1) (cV (.d (.int 2))) fIdx) (fIsa Ty.tuple))))) (sRet (cV (.d (.bool false)))) sNil)
    (sSeq (sIf (bNot (tBool (vCall (aCons (vOfL c1_is_arc_value) aNil) fAll))) (sRet (cV (.d (.bool false)))) sNil)
    (sRet (vCall (aCons (vOfL c2_is_arc_value) aNil) fAll)))))
def f_is_arc_value : FF := bodyF 5 b_is_arc_value
def b_need_arc : FS :=
    (sIf (bNot (tBool (vDef (aCons (vVar 0) (aCons (vVar 1) aNil)) 2 f_is_arc_value))) sNever sNil)
def f_need_arc : FF := bodyF 2 b_need_arc
def c1_part_of : FL :=
    lComp (iSeq (b2 (vVar 0) (cV (.d (.int 2))) fIdx)) [3] (gSet 3) (tBool (vChain (vVar 1) (vVar 3) (vVar 2) fLt fLt)) (vVar 3)
def b_part_of : FS :=
    (sRet (vTup (aCons (vVar 1) (aCons (vVar 2) (aCons (vCall (aCons (vOfL c1_part_of) aNil) fTuple) aNil)))))
def f_part_of : FF := bodyF 4 b_part_of
def c1_within : FL :=
    lComp2 (iRange2 (aCons (vVar 1) (aCons (vVar 2) aNil))) [3, 4] (gSet 3) bYes (iRange2 (aCons (b2 (vVar 3) (cV (.d (.int 1))) fAdd) (aCons (b2 (vVar 2) (cV (.d (.int 1))) fAdd) aNil))) [4] (gSet 4) bYes (vDef (aCons (vVar 0) (aCons (vVar 3) (aCons (vVar 4) aNil))) 3 f_part_of)
def b_within : FS :=
    (sSeq (sAsg (vTup (aCons (b2 (vVar 0) (cV (.d (.int 0))) fIdx) (aCons (b2 (vVar 0) (cV (.d (.int 1))) fIdx) aNil))) (gUnpack 2 (gsCons (gSet 1) (gsCons (gSet 2) gsNil))))
    (sRet (vOfL (lCall (aCons (vOfL c1_within) aNil) fSorted))))
def f_within : FF := bodyF 5 b_within
def b_arcs_within : FS :=
    (sSeq (sExpr (vDef (aCons (vVar 0) (aCons (vVar 1) aNil)) 2 f_need_arc))
    (sRet (vCall (aCons (vDef (aCons (vVar 1) aNil) 1 f_within) aNil) fTuple)))
def f_arcs_within : FF := bodyF 2 b_arcs_within
def c1__law_near : FL :=
    lComp (iRange2 (aCons (b2 (vVar 3) (cV (.d (.int 1))) fAdd) (aCons (vVar 4) aNil))) [8] (gSet 8) (tBool (b2 (b2 (vVar 8) (vVar 5) fIn) (b2 (vVar 7) (vVar 8) fEq) fNe)) (vVar 8)
def b__law_near : FS :=
    (sSeq (sAsg (vIf (tBool (b2 (b2 (b2 (vVar 1) (cV (.d (.int 1))) fIdx) (b2 (vVar 1) (cV (.d (.int 0))) fIdx) fSub) (cV (.d (.int 12))) fLt)) (vDef (aCons (vVar 0) (aCons (vDef (aCons (vVar 1) aNil) 1 f__law_within) aNil)) 2 f__law_pick) (vVar 1)) (gUnpack 3 (gsCons (gSet 3) (gsCons (gSet 4) (gsCons (gSet 5) gsNil)))))
    (sSeq (sAsg (vDef (aCons (vVar 0) (aCons (cV (.d (.int 5))) aNil)) 2 f__law_draw) (gSet 6))
    (sSeq (sIf (tBool (b2 (vVar 6) (cV (.d (.int 0))) fEq)) (sRet (vDef (aCons (vVar 0) (aCons (vVar 2) aNil)) 2 f__law_arc)) sNil)
    (sSeq (sIf (bAnd (tBool (b2 (vVar 6) (cV (.d (.int 1))) fEq)) (tBool (b2 (b2 (vVar 4) (vVar 3) fSub) (cV (.d (.int 1))) fGt))) (sSeq (sAsg (b2 (b2 (vVar 3) (cV (.d (.int 1))) fAdd) (vDef (aCons (vVar 0) (aCons (b2 (b2 (vVar 4) (vVar 3) fSub) (cV (.d (.int 1))) fSub) aNil)) 2 f__law_draw) fAdd) (gSet 7))
    (sRet (vTup (aCons (vVar 3) (aCons (vVar 4) (aCons (vCall (aCons (vOfL c1__law_near) aNil) fTuple) aNil)))))) sNil)
    (sSeq (sIf (bAnd (tBool (b2 (vVar 6) (cV (.d (.int 2))) fEq)) (tBool (b2 (vVar 4) (vVar 2) fLt))) (sRet (vTup (aCons (vVar 3) (aCons (b2 (vVar 4) (cV (.d (.int 1))) fAdd) (aCons (b2 (vVar 5) (vIf (tBool (b2 (vDef (aCons (vVar 0) (aCons (cV (.d (.int 2))) aNil)) 2 f__law_draw) (cV (.d (.int 0))) fEq)) (vTup (aCons (vVar 4) aNil)) (vTup aNil)) fAdd) aNil))))) sNil)
    (sRet (vTup (aCons (vVar 3) (aCons (vVar 4) (aCons (vVar 5) aNil))))))))))
def f__law_near : FF := bodyF 9 b__law_near
def c1__law_lies : FL :=
    lComp (iSeq (b2 (vVar 1) (cV (.d (.int 2))) fIdx)) [5] (gSet 5) (tBool (vChain (vVar 2) (vVar 5) (vVar 3) fLt fLt)) (vVar 5)
def b__law_lies : FS :=
    (sSeq (sAsg (vVar 0) (gUnpack 3 (gsCons (gSet 2) (gsCons (gSet 3) (gsCons (gSet 4) gsNil)))))
    (sRet (vAnd (b2 (vVar 2) (b2 (vVar 1) (cV (.d (.int 0))) fIdx) fGe) (vAnd (b2 (vVar 3) (b2 (vVar 1) (cV (.d (.int 1))) fIdx) fLe) (b2 (vVar 4) (vCall (aCons (vOfL c1__law_lies) aNil) fTuple) fEq)))))
def f__law_lies : FF := bodyF 6 b__law_lies
def b_need_arcs : FS :=
    (sSeq (sExpr (vDef (aCons (vVar 0) (aCons (vVar 1) aNil)) 2 f_need_arc))
    (sExpr (vDef (aCons (vVar 0) (aCons (vVar 2) aNil)) 2 f_need_arc)))
def f_need_arcs : FF := bodyF 3 b_need_arcs
def c1_is_within : FL :=
    lComp (iSeq (b2 (vVar 1) (cV (.d (.int 2))) fIdx)) [5] (gSet 5) (tBool (vChain (vVar 2) (vVar 5) (vVar 3) fLt fLt)) (vVar 5)
def b_is_within : FS :=
    (sSeq (sAsg (vVar 0) (gUnpack 3 (gsCons (gSet 2) (gsCons (gSet 3) (gsCons (gSet 4) gsNil)))))
    (sSeq (sIf (bOr (tBool (b2 (vVar 2) (b2 (vVar 1) (cV (.d (.int 0))) fIdx) fLt)) (tBool (b2 (vVar 3) (b2 (vVar 1) (cV (.d (.int 1))) fIdx) fGt))) (sRet (cV (.d (.bool false)))) sNil)
    (sRet (b2 (vVar 4) (vCall (aCons (vOfL c1_is_within) aNil) fTuple) fEq))))
def f_is_within : FF := bodyF 6 b_is_within
def b_lies_within : FS :=
    (sSeq (sExpr (vDef (aCons (vVar 0) (aCons (vVar 1) (aCons (vVar 2) aNil))) 3 f_need_arcs))
    (sRet (vDef (aCons (vVar 1) (aCons (vVar 2) aNil)) 2 f_is_within)))
def f_lies_within : FF := bodyF 3 b_lies_within
def c1_law : FL :=
    lComp (iSeq (vDef (aCons (vVar 3) (aCons (vVar 9) aNil)) 2 f_arcs_within)) [12] (gSet 12) (tBool (b2 (vVar 12) (vVar 7) fNotIn)) (cV (.d (.int 1)))
def lb1_law : FS :=
    (sSeq (sPar 9 10 (aCons (vDef (aCons (vVar 1) (aCons (vVar 4) (aCons (vVar 3) aNil))) 3 f__law_near) (aCons (vVar 4) aNil)))
    (sSeq (sIf (tBool (b2 (vVar 8) (cV (.d (.int 4))) fGt)) (sAsg (vDef (aCons (vVar 1) (aCons (vVar 4) (aCons (vVar 3) aNil))) 3 f__law_near) (gSet 10)) sNil)
    (sSeq (sAsg (vDef (aCons (vVar 9) (aCons (vVar 10) aNil)) 2 f__law_lies) (gSet 11))
    (sSeq (sIf (tBool (b2 (vCall (aCons (vTup (aCons (vDef (aCons (vVar 3) (aCons (vVar 9) (aCons (vVar 10) aNil))) 3 f_lies_within) (aCons (vDefK aNil (aCons (vVar 10) (aCons (vVar 9) (aCons (vVar 3) aNil))) 0 3 (perm [2, 1, 0]) f_lies_within) aNil))) aNil) fRepr) (vCall (aCons (vTup (aCons (vVar 11) (aCons (vVar 11) aNil))) aNil) fRepr) fNe)) (sRet (cV (.d (.bool false)))) sNil)
    (sSeq (sIf (bAnd (tBool (b2 (vVar 8) (cV (.d (.int 2))) fLt)) (bAnd (tBool (vVar 11)) (tBool (b2 (vOfL c1_law) (vOfL (lDisp aNil)) fNe)))) (sRet (cV (.d (.bool false)))) sNil)
    (sIf (tBool (b2 (vAnd (vVar 11) (vDef (aCons (vVar 3) (aCons (vVar 10) (aCons (vVar 9) aNil))) 3 f_lies_within)) (b2 (vVar 9) (vVar 10) fEq) fNe)) (sRet (cV (.d (.bool false)))) sNil))))))
def l1_law : FS :=
    sFor (iRange1 (aCons (cV (.d (.int 8))) aNil)) (gSet 8) lb1_law
def lb2_law : FS :=
    (sSeq (sAsg (vDef (aCons (vVar 1) (aCons (vOfL (lDisp (aCons (cV (.d (.int 3))) (aCons (cV (.d (.int 5))) (aCons (cV (.d (.int 4))) (aCons (cV (.d (.int 8))) (aCons (cV (.d (.int 2))) (aCons (cV (.d (.int 6))) (aCons (cV (.d (.int 9))) (aCons (cV (.d (.int 4))) (aCons (cV (.d (.int 7))) (aCons (vDef (aCons (vVar 1) (aCons (vOfL (lDisp (aCons (cV (.d (.int 9))) (aCons (cV (.d (.int 40))) (aCons (cV (.d (.int 8))) aNil))))) aNil)) 2 f__law_pick) aNil)))))))))))) aNil)) 2 f__law_pick) (gSet 3))
    (sSeq (sAsg (vIf (tBool (b2 (vVar 3) (cV (.d (.int 40))) fLt)) (vDef (aCons (vVar 1) (aCons (vVar 3) aNil)) 2 f__law_arc) (vTup (aCons (cV (.d (.int 1))) (aCons (b2 (cV (.d (.int 12))) (vDef (aCons (vVar 1) (aCons (cV (.d (.int 8))) aNil)) 2 f__law_draw) fAdd) (aCons (vTup (aCons (cV (.d (.int 5))) (aCons (cV (.d (.int 9))) aNil))) aNil))))) (gSet 4))
    (sSeq (sPar 5 6 (aCons (vCall (aCons (vVar 4) aNil) fRepr) (aCons (vDef (aCons (vVar 4) aNil) 1 f__law_within) aNil)))
    (sSeq (sAsg (vDef (aCons (vVar 3) (aCons (vVar 4) aNil)) 2 f_arcs_within) (gSet 7))
    (sSeq (sIf (bOr (tBool (b2 (vCall (aCons (vTup (aCons (vVar 7) (aCons (vDefK aNil (aCons (vVar 4) (aCons (vVar 3) aNil)) 0 2 (perm [1, 0]) f_arcs_within) aNil))) aNil) fRepr) (vCall (aCons (vTup (aCons (vVar 6) (aCons (vVar 6) aNil))) aNil) fRepr) fNe)) (tBool (b2 (b2 (cV (.d (.int 2))) (vCall (aCons (vVar 7) aNil) fLen) fMul) (b2 (b2 (b2 (vVar 4) (cV (.d (.int 1))) fIdx) (b2 (vVar 4) (cV (.d (.int 0))) fIdx) fSub) (b2 (b2 (b2 (vVar 4) (cV (.d (.int 1))) fIdx) (b2 (vVar 4) (cV (.d (.int 0))) fIdx) fSub) (cV (.d (.int 1))) fAdd) fMul) fNe))) (sRet (cV (.d (.bool false)))) sNil)
    (sSeq l1_law
    (sIf (tBool (b2 (vCall (aCons (vVar 4) aNil) fRepr) (vVar 5) fNe)) (sRet (cV (.d (.bool false)))) sNil)))))))
def l2_law : FS :=
    sFor (iRange1 (aCons (cV (.d (.int 2))) aNil)) (gSet 2) lb2_law
def b_law : FS :=
    (sSeq l2_law
    (sRet (cV (.d (.bool true)))))
/-! ### what the top has left -/
structure Ctx (K : PySem.W.Frag) (mg : Str → Option Value) where
  a__law_deck : Addr
  q__law_deck : FuncData
  d__law_deck : Df K mg "_law_deck" s__law_deck ["script"] a__law_deck q__law_deck
  a__law_draw : Addr
  q__law_draw : FuncData
  d__law_draw : Df K mg "_law_draw" s__law_draw ["deck", "many"] a__law_draw q__law_draw
  a__law_pick : Addr
  q__law_pick : FuncData
  d__law_pick : Df K mg "_law_pick" s__law_pick ["deck", "some"] a__law_pick q__law_pick
  a__law_arc : Addr
  q__law_arc : FuncData
  d__law_arc : Df K mg "_law_arc" s__law_arc ["deck", "n"] a__law_arc q__law_arc
  a__law_within : Addr
  q__law_within : FuncData
  d__law_within : Df K mg "_law_within" s__law_within ["arc"] a__law_within q__law_within
  a_is_integer : Addr
  q_is_integer : FuncData
  d_is_integer : Df K mg "is_integer" s_is_integer ["thing"] a_is_integer q_is_integer
  a_is_between : Addr
  q_is_between : FuncData
  d_is_between : Df K mg "is_between" s_is_between ["thing", "least", "most"] a_is_between q_is_between
  a_is_arc_value : Addr
  q_is_arc_value : FuncData
  d_is_arc_value : Df K mg "is_arc_value" s_is_arc_value ["n", "thing"] a_is_arc_value q_is_arc_value
  a_need_arc : Addr
  q_need_arc : FuncData
  d_need_arc : Df K mg "need_arc" s_need_arc ["n", "arc"] a_need_arc q_need_arc
  a_part_of : Addr
  q_part_of : FuncData
  d_part_of : Df K mg "part_of" s_part_of ["arc", "c", "d"] a_part_of q_part_of
  a_within : Addr
  q_within : FuncData
  d_within : Df K mg "within" s_within ["arc"] a_within q_within
  a_arcs_within : Addr
  q_arcs_within : FuncData
  d_arcs_within : Df K mg "arcs_within" s_arcs_within ["n", "arc"] a_arcs_within q_arcs_within
  a__law_near : Addr
  q__law_near : FuncData
  d__law_near : Df K mg "_law_near" s__law_near ["deck", "arc", "n"] a__law_near q__law_near
  a__law_lies : Addr
  q__law_lies : FuncData
  d__law_lies : Df K mg "_law_lies" s__law_lies ["one", "other"] a__law_lies q__law_lies
  a_need_arcs : Addr
  q_need_arcs : FuncData
  d_need_arcs : Df K mg "need_arcs" s_need_arcs ["n", "one", "other"] a_need_arcs q_need_arcs
  a_is_within : Addr
  q_is_within : FuncData
  d_is_within : Df K mg "is_within" s_is_within ["one", "other"] a_is_within q_is_within
  a_lies_within : Addr
  q_lies_within : FuncData
  d_lies_within : Df K mg "lies_within" s_lies_within ["n", "one", "other"] a_lies_within q_lies_within
  a_law : Addr
  q_law : FuncData
  d_law : Df K mg "law" s_law ["script"] a_law q_law
  b_all : mg "all" = none
  b_bool : mg "bool" = none
  b_int : mg "int" = none
  b_isinstance : mg "isinstance" = none
  b_len : mg "len" = none
  b_list : mg "list" = none
  b_max : mg "max" = none
  b_range : mg "range" = none
  b_repr : mg "repr" = none
  b_sorted : mg "sorted" = none
  b_tuple : mg "tuple" = none
  b_zip : mg "zip" = none
section
variable {P : Program} {w : World} {K : PySem.W.Frag} {mg : Str → Option Value} {base : Heap}
theorem kb_arcs_within_0_arc_n (C : Ctx K mg) : KB K C.q_arcs_within ["n", "arc"] 0 ["arc", "n"] (perm [1, 0]) := kb_of C.d_arcs_within.fn [1, 0] fun _ _ _ _ _ _ us ws l1 l2 => match us, ws, l1, l2 with | [], [_, _], _, _ => rfl
theorem kb_lies_within_0_other_one_n (C : Ctx K mg) : KB K C.q_lies_within ["n", "one", "other"] 0 ["other", "one", "n"] (perm [2, 1, 0]) := kb_of C.d_lies_within.fn [2, 1, 0] fun _ _ _ _ _ _ us ws l1 l2 => match us, ws, l1, l2 with | [], [_, _, _], _, _ => rfl
theorem ok__law_draw (C : Ctx K mg) : FnD P w K mg base 1 C.a__law_draw C.q__law_draw ["deck", "many"] f__law_draw :=
  ok_def C.d__law_draw sc__law_draw fun cdv A outer s H E hgd hr =>
    (dss_cons (ds_draws hr (dv_bin op_addA ok_add (dv_dkDraws hr (dv_var 0) (fun _ _ => rfl)) dv_int) (dv_var 0))
    (dss_cons (ds_set 2 sc__law_draw.nd (dv_bin op_addA ok_add (dv_dkMixed hr (dv_var 0) (fun _ _ => rfl)) (dv_bin op_mul ok_mul dv_int (dv_dkDraws hr (dv_var 0) (fun _ _ => rfl)))))
    (dss_cons (ds_if (db_cells hr (dv_var 0) (fun _ _ => rfl)) (dss_cons (ds_set 3 sc__law_draw.nd (dv_cellsPop hr (dv_var 0) (fun _ _ => rfl)))
    (dss_cons (ds_if (db_cmp (op_geP hr) ok_ge (dv_var 3) (dv_bin op_pow ok_pow dv_int dv_int) (nomark _)) (dss_cons (ds_cellsApp hr (dv_var 0) (dv_bin op_fdiv ok_div (dv_var 3) (dv_callB (call_max2 rfl) ok_max2 (by rfl) C.b_max PyProof.Rows.boot_max (da_cons dv_int (da_cons (dv_var 1) da_nil)))) (fun _ _ => rfl))
    (dss_one (ds_ret (dv_bin op_mod ok_mod (dv_callTy call_int1 ok_int (by rfl) C.b_int PyProof.Rows.boot_int (da_cons (dv_var 3) da_nil)) (dv_var 1))))) dss_nil)
    (dss_one (ds_set 2 sc__law_draw.nd (dv_bin op_addA ok_add (dv_var 2) (dv_bin op_mod ok_mod (dv_callTy call_int1 ok_int (by rfl) C.b_int PyProof.Rows.boot_int (da_cons (dv_var 3) da_nil)) dv_int)))))) dss_nil)
    (dss_cons (ds_set 2 sc__law_draw.nd (dv_bin op_mod ok_mod (dv_callTy call_int1 ok_int (by rfl) C.b_int PyProof.Rows.boot_int (da_cons (dv_bin op_addA ok_add (dv_bin op_mul ok_mul (dv_var 2) dv_int) dv_int) da_nil)) dv_int))
    (dss_cons (ds_set 2 sc__law_draw.nd (dv_bin op_mod ok_mod (dv_callTy call_int1 ok_int (by rfl) C.b_int PyProof.Rows.boot_int (da_cons (dv_bin op_addA ok_add (dv_bin op_addA ok_add (dv_bin op_mul ok_mul (dv_var 2) (dv_var 2)) (dv_bin op_mul ok_mul dv_int (dv_dkDraws hr (dv_var 0) (fun _ _ => rfl)))) dv_int) da_nil)) dv_int))
    (dss_cons (ds_set 2 sc__law_draw.nd (dv_bin op_mod ok_mod (dv_callTy call_int1 ok_int (by rfl) C.b_int PyProof.Rows.boot_int (da_cons (dv_bin op_mul ok_mul (dv_var 2) dv_int) da_nil)) dv_int))
    (dss_one (ds_ret (dv_bin op_mod ok_mod (dv_callTy call_int1 ok_int (by rfl) C.b_int PyProof.Rows.boot_int (da_cons (dv_bin op_fdiv ok_div (dv_var 2) dv_int) da_nil)) (dv_var 1))))))))))
theorem ok__law_pick (C : Ctx K mg) : FnD P w K mg base 2 C.a__law_pick C.q__law_pick ["deck", "some"] f__law_pick :=
  ok_def C.d__law_pick sc__law_pick fun cdv A outer s H E hgd hr =>
    (dss_one (ds_ret (dv_idx (dv_var 1) (dv_call (ok__law_draw C) hgd (hr.mono (by decide)) (by rfl) C.d__law_draw.mg C.d__law_draw.fn.kp C.d__law_draw.bd (da_cons (dv_var 0) (da_cons (dv_callB call_len ok_len (by rfl) C.b_len PySem.boot_len (da_cons (dv_var 1) da_nil)) da_nil))))))
theorem ok__law_arc (C : Ctx K mg) : FnD P w K mg base 3 C.a__law_arc C.q__law_arc ["deck", "n"] f__law_arc :=
  ok_def C.d__law_arc sc__law_arc fun cdv A outer s H E hgd hr =>
    (dss_cons (ds_set 2 sc__law_arc.nd (dv_bin op_addA ok_add dv_int (dv_call (ok__law_draw C) hgd (hr.mono (by decide)) (by rfl) C.d__law_draw.mg C.d__law_draw.fn.kp C.d__law_draw.bd (da_cons (dv_var 0) (da_cons (dv_bin op_sub ok_sub (dv_var 1) dv_int) da_nil)))))
    (dss_cons (ds_set 3 sc__law_arc.nd (dv_call (ok__law_pick C) hgd (hr.mono (by decide)) (by rfl) C.d__law_pick.mg C.d__law_pick.fn.kp C.d__law_pick.bd (da_cons (dv_var 0) (da_cons (dv_ofL (de_lst (da_cons (dv_var 1) (da_cons (dv_bin op_addA ok_add (dv_bin op_addA ok_add (dv_var 2) dv_int) (dv_call (ok__law_draw C) hgd (hr.mono (by decide)) (by rfl) C.d__law_draw.mg C.d__law_draw.fn.kp C.d__law_draw.bd (da_cons (dv_var 0) (da_cons (dv_bin op_sub ok_sub (dv_var 1) (dv_var 2)) da_nil)))) (da_cons (dv_bin op_addA ok_add (dv_bin op_addA ok_add (dv_var 2) dv_int) (dv_call (ok__law_draw C) hgd (hr.mono (by decide)) (by rfl) C.d__law_draw.mg C.d__law_draw.fn.kp C.d__law_draw.bd (da_cons (dv_var 0) (da_cons (dv_bin op_sub ok_sub (dv_var 1) (dv_var 2)) da_nil)))) da_nil))))) da_nil))))
    (dss_cons (ds_set 4 sc__law_arc.nd (dv_call (ok__law_draw C) hgd (hr.mono (by decide)) (by rfl) C.d__law_draw.mg C.d__law_draw.fn.kp C.d__law_draw.bd (da_cons (dv_var 0) (da_cons dv_int da_nil))))
    (dss_one (ds_ret (dv_tup (da_cons (dv_var 2) (da_cons (dv_var 3) (da_cons (dv_callTy call_tuple_of ok_tuple (by rfl) C.b_tuple PyProof.Rows.boot_tuple (da_cons (dv_ofL (de_lc (own := [("x", 5)]) rfl sc__law_arc.nd (di_range2 (by rfl) C.b_range (da_cons (dv_bin op_addA ok_add (dv_var 2) dv_int) (da_cons (dv_var 3) da_nil))) (blkOk_by (N := N__law_arc) (sc := defScope s__law_arc) (by decide +kernel)) (by decide) (fun _ _ _ _ _ => (dg_name 5 sc__law_arc.nd)) (fun _ _ _ _ _ => (dts_one (DW.db (dw_or (db_cmp (op_eqP hr) ok_eq (dv_var 4) dv_int (nomark _)) (dw_or1 (DW.db (dw_and (db_cmp (op_gtP hr) ok_gt (dv_var 4) dv_int (nomark _)) (dw_and1 (db_cmp (op_eqP hr) ok_eq (dv_call (ok__law_draw C) hgd (hr.mono (by decide)) (by rfl) C.d__law_draw.mg C.d__law_draw.fn.kp C.d__law_draw.bd (da_cons (dv_var 0) (da_cons dv_int da_nil))) dv_int (nomark _)))))))))) (fun _ _ _ _ _ => (dv_var 5)))) da_nil)) da_nil)))))))))
theorem ok__law_within (C : Ctx K mg) : FnD P w K mg base 1 C.a__law_within C.q__law_within ["arc"] f__law_within :=
  ok_def C.d__law_within sc__law_within fun cdv A outer s H E hgd hr =>
    (dss_cons (ds_asg (dv_var 0) (dg_tup rfl (dgs_cons (dg_name 1 sc__law_within.nd) (dgs_cons (dg_name 2 sc__law_within.nd) (dgs_cons (dg_name 3 sc__law_within.nd) dgs_nil)))))
    (dss_cons (ds_own 4 sc__law_within.nd (de_lst da_nil))
    (dss_cons (ds_for PassesOwn.never rfl (di_range2 (by rfl) C.b_range (da_cons (dv_var 1) (da_cons (dv_var 2) da_nil))) (dg_name 5 sc__law_within.nd)
    (dss_one (ds_for PassesOwn.never rfl (di_range2 (by rfl) C.b_range (da_cons (dv_bin op_addA ok_add (dv_var 5) dv_int) (da_cons (dv_bin op_addA ok_add (dv_var 2) dv_int) da_nil))) (dg_name 6 sc__law_within.nd)
    (dss_one (ds_append 4 (dv_tup (da_cons (dv_var 5) (da_cons (dv_var 6) (da_cons (dv_callTy call_tuple_of ok_tuple (by rfl) C.b_tuple PyProof.Rows.boot_tuple (da_cons (dv_ofL (de_lc (own := [("x", 7)]) rfl sc__law_within.nd (di_seq (dv_var 3)) (blkOk_by (N := N__law_within) (sc := defScope s__law_within) (by decide +kernel)) (by decide) (fun _ _ _ _ _ => (dg_name 7 sc__law_within.nd)) (fun _ _ _ _ _ => (dts_one (db_chain (op_ltP hr) ok_lt (op_ltP hr) ok_lt (dv_var 5) (dv_var 7) (dv_var 6)))) (fun _ _ _ _ _ => (dv_var 7)))) da_nil)) da_nil)))))))))
    (dss_one (ds_ret (dv_callTy call_tuple_of ok_tuple (by rfl) C.b_tuple PyProof.Rows.boot_tuple (da_cons (dv_ofL (de_callB (cr_sort hr) ok_sorted (by rfl) C.b_sorted PyProof.Rows.boot_sorted (da_cons (dv_frz 4) da_nil))) da_nil)))))))
theorem ok_is_integer (C : Ctx K mg) : FnD P w K mg base 1 C.a_is_integer C.q_is_integer ["thing"] f_is_integer :=
  ok_def C.d_is_integer sc_is_integer fun cdv A outer s H E hgd hr =>
    (dss_one (ds_ret (dv_and (dv_isi Ty.int (by rfl) C.b_isinstance (dv_var 0) (by rfl) C.b_int (by decide +kernel)) (dv_one (dv_not (dv_isi Ty.bool (by rfl) C.b_isinstance (dv_var 0) (by rfl) C.b_bool (by decide +kernel)))))))
theorem ok_is_between (C : Ctx K mg) : FnD P w K mg base 2 C.a_is_between C.q_is_between ["thing", "least", "most"] f_is_between :=
  ok_def C.d_is_between sc_is_between fun cdv A outer s H E hgd hr =>
    (dss_one (ds_ret (dv_and (dv_call (ok_is_integer C) hgd (hr.mono (by decide)) (by rfl) C.d_is_integer.mg C.d_is_integer.fn.kp C.d_is_integer.bd (da_cons (dv_var 0) da_nil)) (dv_one (dv_chain (op_leP hr) ok_le (op_leP hr) ok_le (dv_var 1) (dv_var 0) (dv_var 2))))))
theorem ok_is_arc_value (C : Ctx K mg) : FnD P w K mg base 3 C.a_is_arc_value C.q_is_arc_value ["n", "thing"] f_is_arc_value :=
  ok_def C.d_is_arc_value sc_is_arc_value fun cdv A outer s H E hgd hr =>
    (dss_cons (ds_if (DW.db (dw_or (db_not (db_of (dv_isi Ty.tuple (by rfl) C.b_isinstance (dv_var 1) (by rfl) C.b_tuple (by decide +kernel)))) (dw_or (db_cmp (op_neP hr) ok_ne (dv_callB call_len ok_len (by rfl) C.b_len PySem.boot_len (da_cons (dv_var 1) da_nil)) dv_int (nomark _)) (dw_or1 (db_not (db_of (dv_call (ok_is_between C) hgd (hr.mono (by decide)) (by rfl) C.d_is_between.mg C.d_is_between.fn.kp C.d_is_between.bd (da_cons (dv_idx (dv_var 1) dv_int) (da_cons dv_int (da_cons (dv_var 0) da_nil)))))))))) (dss_one (ds_ret dv_bl)) dss_nil)
    (dss_cons (ds_if (DW.db (dw_or (db_not (db_of (dv_call (ok_is_between C) hgd (hr.mono (by decide)) (by rfl) C.d_is_between.mg C.d_is_between.fn.kp C.d_is_between.bd (da_cons (dv_idx (dv_var 1) dv_int) (da_cons (dv_bin op_addA ok_add (dv_idx (dv_var 1) dv_int) dv_int) (da_cons (dv_var 0) da_nil)))))) (dw_or1 (db_not (db_of (dv_isi Ty.tuple (by rfl) C.b_isinstance (dv_idx (dv_var 1) dv_int) (by rfl) C.b_tuple (by decide +kernel))))))) (dss_one (ds_ret dv_bl)) dss_nil)
    (dss_cons (ds_if (db_not (db_of (dv_callB (cr_all rfl) ok_all (by rfl) C.b_all PyProof.Rows.boot_all (da_cons (dv_ofL (de_lc (own := [("number", 2)]) rfl sc_is_arc_value.nd (di_seq (dv_idx (dv_var 1) dv_int)) (blkOk_by (N := N_is_arc_value) (sc := defScope s_is_arc_value) (by decide +kernel)) (by decide) (fun _ _ _ _ _ => (dg_name 2 sc_is_arc_value.nd)) (fun _ _ _ _ _ => dts_nil) (fun _ _ _ _ _ => (dv_call (ok_is_between C) hgd (hr.mono (by decide)) (by rfl) C.d_is_between.mg C.d_is_between.fn.kp C.d_is_between.bd (da_cons (dv_var 2) (da_cons (dv_bin op_addA ok_add (dv_idx (dv_var 1) dv_int) dv_int) (da_cons (dv_bin op_sub ok_sub (dv_idx (dv_var 1) dv_int) dv_int) da_nil))))))) da_nil)))) (dss_one (ds_ret dv_bl)) dss_nil)
    (dss_one (ds_ret (dv_callB (cr_all rfl) ok_all (by rfl) C.b_all PyProof.Rows.boot_all (da_cons (dv_ofL (de_lc (own := [("one", 3), ("other", 4)]) rfl sc_is_arc_value.nd (di_zip (by rfl) C.b_zip (da_cons (dv_idx (dv_var 1) dv_int) (da_cons (dv_slice (dv_idx (dv_var 1) dv_int) (do_some dv_int) do_none) da_nil))) (blkOk_by (N := N_is_arc_value) (sc := defScope s_is_arc_value) (by decide +kernel)) (by decide) (fun _ _ _ _ _ => (dg_tup rfl (dgs_cons (dg_name 3 sc_is_arc_value.nd) (dgs_cons (dg_name 4 sc_is_arc_value.nd) dgs_nil)))) (fun _ _ _ _ _ => dts_nil) (fun _ _ _ _ _ => (dv_cmp (op_ltP hr) ok_lt (dv_var 3) (dv_var 4) (nomark _))))) da_nil)))))))
theorem ok_need_arc (C : Ctx K mg) : FnD P w K mg base 4 C.a_need_arc C.q_need_arc ["n", "arc"] f_need_arc :=
  ok_def C.d_need_arc sc_need_arc fun cdv A outer s H E hgd hr =>
    (dss_one (ds_if (db_not (db_of (dv_call (ok_is_arc_value C) hgd (hr.mono (by decide)) (by rfl) C.d_is_arc_value.mg C.d_is_arc_value.fn.kp C.d_is_arc_value.bd (da_cons (dv_var 0) (da_cons (dv_var 1) da_nil))))) (dss_one ds_never) dss_nil))
theorem ok_part_of (C : Ctx K mg) : FnD P w K mg base 1 C.a_part_of C.q_part_of ["arc", "c", "d"] f_part_of :=
  ok_def C.d_part_of sc_part_of fun cdv A outer s H E hgd hr =>
    (dss_one (ds_ret (dv_tup (da_cons (dv_var 1) (da_cons (dv_var 2) (da_cons (dv_callTy call_tuple_of ok_tuple (by rfl) C.b_tuple PyProof.Rows.boot_tuple (da_cons (dv_ofL (de_lc (own := [("number", 3)]) rfl sc_part_of.nd (di_seq (dv_idx (dv_var 0) dv_int)) (blkOk_by (N := N_part_of) (sc := defScope s_part_of) (by decide +kernel)) (by decide) (fun _ _ _ _ _ => (dg_name 3 sc_part_of.nd)) (fun _ _ _ _ _ => (dts_one (db_chain (op_ltP hr) ok_lt (op_ltP hr) ok_lt (dv_var 1) (dv_var 3) (dv_var 2)))) (fun _ _ _ _ _ => (dv_var 3)))) da_nil)) da_nil))))))
theorem ok_within (C : Ctx K mg) : FnD P w K mg base 2 C.a_within C.q_within ["arc"] f_within :=
  ok_def C.d_within sc_within fun cdv A outer s H E hgd hr =>
    (dss_cons (ds_asg (dv_tup (da_cons (dv_idx (dv_var 0) dv_int) (da_cons (dv_idx (dv_var 0) dv_int) da_nil))) (dg_tup rfl (dgs_cons (dg_name 1 sc_within.nd) (dgs_cons (dg_name 2 sc_within.nd) dgs_nil))))
    (dss_one (ds_ret (dv_ofL (de_callB (cr_sort hr) ok_sorted (by rfl) C.b_sorted PyProof.Rows.boot_sorted (da_cons (dv_ofL (de_lc2 (own := [("c", 3), ("d", 4)]) (vs1 := [4]) rfl sc_within.nd (di_range2 (by rfl) C.b_range (da_cons (dv_var 1) (da_cons (dv_var 2) da_nil))) (blkOk_by (N := N_within) (sc := defScope s_within) (by decide +kernel)) (by decide) (by decide) (by decide) (fun _ _ _ _ _ => (dg_name 3 sc_within.nd)) (fun _ _ _ _ _ => dts_nil) (fun _ _ _ _ _ => (di_range2 (by rfl) C.b_range (da_cons (dv_bin op_addA ok_add (dv_var 3) dv_int) (da_cons (dv_bin op_addA ok_add (dv_var 2) dv_int) da_nil)))) (fun _ _ _ _ _ => (dg_name 4 sc_within.nd)) (fun _ _ _ _ _ => dts_nil) (fun _ _ _ _ _ => (dv_call (ok_part_of C) hgd (hr.mono (by decide)) (by rfl) C.d_part_of.mg C.d_part_of.fn.kp C.d_part_of.bd (da_cons (dv_var 0) (da_cons (dv_var 3) (da_cons (dv_var 4) da_nil))))))) da_nil))))))
theorem ok_arcs_within (C : Ctx K mg) : FnD P w K mg base 5 C.a_arcs_within C.q_arcs_within ["n", "arc"] f_arcs_within :=
  ok_def C.d_arcs_within sc_arcs_within fun cdv A outer s H E hgd hr =>
    (dss_cons (ds_expr (dv_call (ok_need_arc C) hgd (hr.mono (by decide)) (by rfl) C.d_need_arc.mg C.d_need_arc.fn.kp C.d_need_arc.bd (da_cons (dv_var 0) (da_cons (dv_var 1) da_nil))))
    (dss_one (ds_ret (dv_callTy call_tuple_of ok_tuple (by rfl) C.b_tuple PyProof.Rows.boot_tuple (da_cons (dv_call (ok_within C) hgd (hr.mono (by decide)) (by rfl) C.d_within.mg C.d_within.fn.kp C.d_within.bd (da_cons (dv_var 1) da_nil)) da_nil)))))
theorem ok__law_near (C : Ctx K mg) : FnD P w K mg base 4 C.a__law_near C.q__law_near ["deck", "arc", "n"] f__law_near :=
  ok_def C.d__law_near sc__law_near fun cdv A outer s H E hgd hr =>
    (dss_cons (ds_asg (dv_if (db_cmp (op_ltP hr) ok_lt (dv_bin op_sub ok_sub (dv_idx (dv_var 1) dv_int) (dv_idx (dv_var 1) dv_int)) dv_int (nomark _)) (dv_call (ok__law_pick C) hgd (hr.mono (by decide)) (by rfl) C.d__law_pick.mg C.d__law_pick.fn.kp C.d__law_pick.bd (da_cons (dv_var 0) (da_cons (dv_call (ok__law_within C) hgd (hr.mono (by decide)) (by rfl) C.d__law_within.mg C.d__law_within.fn.kp C.d__law_within.bd (da_cons (dv_var 1) da_nil)) da_nil))) (dv_var 1)) (dg_tup rfl (dgs_cons (dg_name 3 sc__law_near.nd) (dgs_cons (dg_name 4 sc__law_near.nd) (dgs_cons (dg_name 5 sc__law_near.nd) dgs_nil)))))
    (dss_cons (ds_set 6 sc__law_near.nd (dv_call (ok__law_draw C) hgd (hr.mono (by decide)) (by rfl) C.d__law_draw.mg C.d__law_draw.fn.kp C.d__law_draw.bd (da_cons (dv_var 0) (da_cons dv_int da_nil))))
    (dss_cons (ds_if (db_cmp (op_eqP hr) ok_eq (dv_var 6) dv_int (nomark _)) (dss_one (ds_ret (dv_call (ok__law_arc C) hgd (hr.mono (by decide)) (by rfl) C.d__law_arc.mg C.d__law_arc.fn.kp C.d__law_arc.bd (da_cons (dv_var 0) (da_cons (dv_var 2) da_nil))))) dss_nil)
    (dss_cons (ds_if (DW.db (dw_and (db_cmp (op_eqP hr) ok_eq (dv_var 6) dv_int (nomark _)) (dw_and1 (db_cmp (op_gtP hr) ok_gt (dv_bin op_sub ok_sub (dv_var 4) (dv_var 3)) dv_int (nomark _))))) (dss_cons (ds_set 7 sc__law_near.nd (dv_bin op_addA ok_add (dv_bin op_addA ok_add (dv_var 3) dv_int) (dv_call (ok__law_draw C) hgd (hr.mono (by decide)) (by rfl) C.d__law_draw.mg C.d__law_draw.fn.kp C.d__law_draw.bd (da_cons (dv_var 0) (da_cons (dv_bin op_sub ok_sub (dv_bin op_sub ok_sub (dv_var 4) (dv_var 3)) dv_int) da_nil)))))
    (dss_one (ds_ret (dv_tup (da_cons (dv_var 3) (da_cons (dv_var 4) (da_cons (dv_callTy call_tuple_of ok_tuple (by rfl) C.b_tuple PyProof.Rows.boot_tuple (da_cons (dv_ofL (de_lc (own := [("y", 8)]) rfl sc__law_near.nd (di_range2 (by rfl) C.b_range (da_cons (dv_bin op_addA ok_add (dv_var 3) dv_int) (da_cons (dv_var 4) da_nil))) (blkOk_by (N := N__law_near) (sc := defScope s__law_near) (by decide +kernel)) (by decide) (fun _ _ _ _ _ => (dg_name 8 sc__law_near.nd)) (fun _ _ _ _ _ => (dts_one (db_cmp (op_neP hr) ok_ne (dv_cmp (op_inP hr) ok_in (dv_var 8) (dv_var 5) (by rfl)) (dv_cmp (op_eqP hr) ok_eq (dv_var 7) (dv_var 8) (nomark _)) (nomark _)))) (fun _ _ _ _ _ => (dv_var 8)))) da_nil)) da_nil))))))) dss_nil)
    (dss_cons (ds_if (DW.db (dw_and (db_cmp (op_eqP hr) ok_eq (dv_var 6) dv_int (nomark _)) (dw_and1 (db_cmp (op_ltP hr) ok_lt (dv_var 4) (dv_var 2) (nomark _))))) (dss_one (ds_ret (dv_tup (da_cons (dv_var 3) (da_cons (dv_bin op_addA ok_add (dv_var 4) dv_int) (da_cons (dv_bin op_addA ok_add (dv_var 5) (dv_if (db_cmp (op_eqP hr) ok_eq (dv_call (ok__law_draw C) hgd (hr.mono (by decide)) (by rfl) C.d__law_draw.mg C.d__law_draw.fn.kp C.d__law_draw.bd (da_cons (dv_var 0) (da_cons dv_int da_nil))) dv_int (nomark _)) (dv_tup (da_cons (dv_var 4) da_nil)) (dv_tup da_nil))) da_nil)))))) dss_nil)
    (dss_one (ds_ret (dv_tup (da_cons (dv_var 3) (da_cons (dv_var 4) (da_cons (dv_var 5) da_nil)))))))))))
theorem ok__law_lies (C : Ctx K mg) : FnD P w K mg base 1 C.a__law_lies C.q__law_lies ["one", "other"] f__law_lies :=
  ok_def C.d__law_lies sc__law_lies fun cdv A outer s H E hgd hr =>
    (dss_cons (ds_asg (dv_var 0) (dg_tup rfl (dgs_cons (dg_name 2 sc__law_lies.nd) (dgs_cons (dg_name 3 sc__law_lies.nd) (dgs_cons (dg_name 4 sc__law_lies.nd) dgs_nil)))))
    (dss_one (ds_ret (dv_and (dv_cmp (op_geP hr) ok_ge (dv_var 2) (dv_idx (dv_var 1) dv_int) (nomark _)) (dv_and (dv_cmp (op_leP hr) ok_le (dv_var 3) (dv_idx (dv_var 1) dv_int) (nomark _)) (dv_one (dv_cmp (op_eqP hr) ok_eq (dv_var 4) (dv_callTy call_tuple_of ok_tuple (by rfl) C.b_tuple PyProof.Rows.boot_tuple (da_cons (dv_ofL (de_lc (own := [("x", 5)]) rfl sc__law_lies.nd (di_seq (dv_idx (dv_var 1) dv_int)) (blkOk_by (N := N__law_lies) (sc := defScope s__law_lies) (by decide +kernel)) (by decide) (fun _ _ _ _ _ => (dg_name 5 sc__law_lies.nd)) (fun _ _ _ _ _ => (dts_one (db_chain (op_ltP hr) ok_lt (op_ltP hr) ok_lt (dv_var 2) (dv_var 5) (dv_var 3)))) (fun _ _ _ _ _ => (dv_var 5)))) da_nil)) (nomark _))))))))
theorem ok_need_arcs (C : Ctx K mg) : FnD P w K mg base 5 C.a_need_arcs C.q_need_arcs ["n", "one", "other"] f_need_arcs :=
  ok_def C.d_need_arcs sc_need_arcs fun cdv A outer s H E hgd hr =>
    (dss_cons (ds_expr (dv_call (ok_need_arc C) hgd (hr.mono (by decide)) (by rfl) C.d_need_arc.mg C.d_need_arc.fn.kp C.d_need_arc.bd (da_cons (dv_var 0) (da_cons (dv_var 1) da_nil))))
    (dss_one (ds_expr (dv_call (ok_need_arc C) hgd (hr.mono (by decide)) (by rfl) C.d_need_arc.mg C.d_need_arc.fn.kp C.d_need_arc.bd (da_cons (dv_var 0) (da_cons (dv_var 2) da_nil))))))
theorem ok_is_within (C : Ctx K mg) : FnD P w K mg base 1 C.a_is_within C.q_is_within ["one", "other"] f_is_within :=
  ok_def C.d_is_within sc_is_within fun cdv A outer s H E hgd hr =>
    (dss_cons (ds_asg (dv_var 0) (dg_tup rfl (dgs_cons (dg_name 2 sc_is_within.nd) (dgs_cons (dg_name 3 sc_is_within.nd) (dgs_cons (dg_name 4 sc_is_within.nd) dgs_nil)))))
    (dss_cons (ds_if (DW.db (dw_or (db_cmp (op_ltP hr) ok_lt (dv_var 2) (dv_idx (dv_var 1) dv_int) (nomark _)) (dw_or1 (db_cmp (op_gtP hr) ok_gt (dv_var 3) (dv_idx (dv_var 1) dv_int) (nomark _))))) (dss_one (ds_ret dv_bl)) dss_nil)
    (dss_one (ds_ret (dv_cmp (op_eqP hr) ok_eq (dv_var 4) (dv_callTy call_tuple_of ok_tuple (by rfl) C.b_tuple PyProof.Rows.boot_tuple (da_cons (dv_ofL (de_lc (own := [("number", 5)]) rfl sc_is_within.nd (di_seq (dv_idx (dv_var 1) dv_int)) (blkOk_by (N := N_is_within) (sc := defScope s_is_within) (by decide +kernel)) (by decide) (fun _ _ _ _ _ => (dg_name 5 sc_is_within.nd)) (fun _ _ _ _ _ => (dts_one (db_chain (op_ltP hr) ok_lt (op_ltP hr) ok_lt (dv_var 2) (dv_var 5) (dv_var 3)))) (fun _ _ _ _ _ => (dv_var 5)))) da_nil)) (nomark _))))))
theorem ok_lies_within (C : Ctx K mg) : FnD P w K mg base 6 C.a_lies_within C.q_lies_within ["n", "one", "other"] f_lies_within :=
  ok_def C.d_lies_within sc_lies_within fun cdv A outer s H E hgd hr =>
    (dss_cons (ds_expr (dv_call (ok_need_arcs C) hgd (hr.mono (by decide)) (by rfl) C.d_need_arcs.mg C.d_need_arcs.fn.kp C.d_need_arcs.bd (da_cons (dv_var 0) (da_cons (dv_var 1) (da_cons (dv_var 2) da_nil)))))
    (dss_one (ds_ret (dv_call (ok_is_within C) hgd (hr.mono (by decide)) (by rfl) C.d_is_within.mg C.d_is_within.fn.kp C.d_is_within.bd (da_cons (dv_var 1) (da_cons (dv_var 2) da_nil))))))
theorem ok_body (C : Ctx K mg) (cdv : Value) (A : Around) (outer : List Env) (s : Shared) (H : Hp) (E : XK) (hgd : A.guards = some []) (hr : Room 6 (A.deeper (envOfC "law" (defScope s_law) s.heap.objs.size C.a_law cdv))) : DSs (cx P w K mg base N_law "law" s_law C.a_law cdv A outer s H E) ((defBody s_law).drop 1) b_law :=
    (dss_cons (ds_for PassesOwn.never rfl (di_range1 (by rfl) C.b_range (da_cons dv_int da_nil)) (dg_name 2 sc_law.nd)
    (dss_cons (ds_set 3 sc_law.nd (dv_call (ok__law_pick C) hgd (hr.mono (by decide)) (by rfl) C.d__law_pick.mg C.d__law_pick.fn.kp C.d__law_pick.bd (da_cons (dv_var 1) (da_cons (dv_ofL (de_lst (da_cons dv_int (da_cons dv_int (da_cons dv_int (da_cons dv_int (da_cons dv_int (da_cons dv_int (da_cons dv_int (da_cons dv_int (da_cons dv_int (da_cons (dv_call (ok__law_pick C) hgd (hr.mono (by decide)) (by rfl) C.d__law_pick.mg C.d__law_pick.fn.kp C.d__law_pick.bd (da_cons (dv_var 1) (da_cons (dv_ofL (de_lst (da_cons dv_int (da_cons dv_int (da_cons dv_int da_nil))))) da_nil))) da_nil)))))))))))) da_nil))))
    (dss_cons (ds_set 4 sc_law.nd (dv_if (db_cmp (op_ltP hr) ok_lt (dv_var 3) dv_int (nomark _)) (dv_call (ok__law_arc C) hgd (hr.mono (by decide)) (by rfl) C.d__law_arc.mg C.d__law_arc.fn.kp C.d__law_arc.bd (da_cons (dv_var 1) (da_cons (dv_var 3) da_nil))) (dv_tup (da_cons dv_int (da_cons (dv_bin op_addA ok_add dv_int (dv_call (ok__law_draw C) hgd (hr.mono (by decide)) (by rfl) C.d__law_draw.mg C.d__law_draw.fn.kp C.d__law_draw.bd (da_cons (dv_var 1) (da_cons dv_int da_nil)))) (da_cons (dv_tup (da_cons dv_int (da_cons dv_int da_nil))) da_nil))))))
    (dss_cons (ds_par 5 6 rfl sc_law.nd (da_cons (dv_callB (cr_repr hr hgd) ok_repr (by rfl) C.b_repr PyProof.Rows.boot_repr (da_cons (dv_var 4) da_nil)) (da_cons (dv_call (ok__law_within C) hgd (hr.mono (by decide)) (by rfl) C.d__law_within.mg C.d__law_within.fn.kp C.d__law_within.bd (da_cons (dv_var 4) da_nil)) da_nil)))
    (dss_cons (ds_set 7 sc_law.nd (dv_call (ok_arcs_within C) hgd (hr.mono (by decide)) (by rfl) C.d_arcs_within.mg C.d_arcs_within.fn.kp C.d_arcs_within.bd (da_cons (dv_var 3) (da_cons (dv_var 4) da_nil))))
    (dss_cons (ds_if (DW.db (dw_or (db_cmp (op_neP hr) ok_ne (dv_callB (cr_repr hr hgd) ok_repr (by rfl) C.b_repr PyProof.Rows.boot_repr (da_cons (dv_tup (da_cons (dv_var 7) (da_cons (dv_callK0 (ok_arcs_within C) hgd (hr.mono (by decide)) (by rfl) C.d_arcs_within.mg C.d_arcs_within.fn.kp (kb_arcs_within_0_arc_n C) (fun S G vs zs ts us r rz l1 l2 => perm_trs [1, 0] (n := 2) (by decide) r rz (by rw [l1, l2]; rfl)) (dk_cons (dv_var 4) (dk_cons (dv_var 3) dk_nil))) da_nil))) da_nil)) (dv_callB (cr_repr hr hgd) ok_repr (by rfl) C.b_repr PyProof.Rows.boot_repr (da_cons (dv_tup (da_cons (dv_var 6) (da_cons (dv_var 6) da_nil))) da_nil)) (nomark _)) (dw_or1 (db_cmp (op_neP hr) ok_ne (dv_bin op_mul ok_mul dv_int (dv_callB call_len ok_len (by rfl) C.b_len PySem.boot_len (da_cons (dv_var 7) da_nil))) (dv_bin op_mul ok_mul (dv_bin op_sub ok_sub (dv_idx (dv_var 4) dv_int) (dv_idx (dv_var 4) dv_int)) (dv_bin op_addA ok_add (dv_bin op_sub ok_sub (dv_idx (dv_var 4) dv_int) (dv_idx (dv_var 4) dv_int)) dv_int)) (nomark _))))) (dss_one (ds_ret dv_bl)) dss_nil)
    (dss_cons (ds_for PassesOwn.never rfl (di_range1 (by rfl) C.b_range (da_cons dv_int da_nil)) (dg_name 8 sc_law.nd)
    (dss_cons (ds_par 9 10 rfl sc_law.nd (da_cons (dv_call (ok__law_near C) hgd (hr.mono (by decide)) (by rfl) C.d__law_near.mg C.d__law_near.fn.kp C.d__law_near.bd (da_cons (dv_var 1) (da_cons (dv_var 4) (da_cons (dv_var 3) da_nil)))) (da_cons (dv_var 4) da_nil)))
    (dss_cons (ds_if (db_cmp (op_gtP hr) ok_gt (dv_var 8) dv_int (nomark _)) (dss_one (ds_set 10 sc_law.nd (dv_call (ok__law_near C) hgd (hr.mono (by decide)) (by rfl) C.d__law_near.mg C.d__law_near.fn.kp C.d__law_near.bd (da_cons (dv_var 1) (da_cons (dv_var 4) (da_cons (dv_var 3) da_nil)))))) dss_nil)
    (dss_cons (ds_set 11 sc_law.nd (dv_call (ok__law_lies C) hgd (hr.mono (by decide)) (by rfl) C.d__law_lies.mg C.d__law_lies.fn.kp C.d__law_lies.bd (da_cons (dv_var 9) (da_cons (dv_var 10) da_nil))))
    (dss_cons (ds_if (db_cmp (op_neP hr) ok_ne (dv_callB (cr_repr hr hgd) ok_repr (by rfl) C.b_repr PyProof.Rows.boot_repr (da_cons (dv_tup (da_cons (dv_call (ok_lies_within C) hgd (hr.mono (by decide)) (by rfl) C.d_lies_within.mg C.d_lies_within.fn.kp C.d_lies_within.bd (da_cons (dv_var 3) (da_cons (dv_var 9) (da_cons (dv_var 10) da_nil)))) (da_cons (dv_callK0 (ok_lies_within C) hgd (hr.mono (by decide)) (by rfl) C.d_lies_within.mg C.d_lies_within.fn.kp (kb_lies_within_0_other_one_n C) (fun S G vs zs ts us r rz l1 l2 => perm_trs [2, 1, 0] (n := 3) (by decide) r rz (by rw [l1, l2]; rfl)) (dk_cons (dv_var 10) (dk_cons (dv_var 9) (dk_cons (dv_var 3) dk_nil)))) da_nil))) da_nil)) (dv_callB (cr_repr hr hgd) ok_repr (by rfl) C.b_repr PyProof.Rows.boot_repr (da_cons (dv_tup (da_cons (dv_var 11) (da_cons (dv_var 11) da_nil))) da_nil)) (nomark _)) (dss_one (ds_ret dv_bl)) dss_nil)
    (dss_cons (ds_if (DW.db (dw_and (db_cmp (op_ltP hr) ok_lt (dv_var 8) dv_int (nomark _)) (dw_and (db_of (dv_var 11)) (dw_and1 (db_cmp (op_neP hr) ok_ne (dv_ofL (de_lc (own := [("some", 12)]) rfl sc_law.nd (di_seq (dv_call (ok_arcs_within C) hgd (hr.mono (by decide)) (by rfl) C.d_arcs_within.mg C.d_arcs_within.fn.kp C.d_arcs_within.bd (da_cons (dv_var 3) (da_cons (dv_var 9) da_nil)))) (blkOk_by (N := N_law) (sc := defScope s_law) (by decide +kernel)) (by decide) (fun _ _ _ _ _ => (dg_name 12 sc_law.nd)) (fun _ _ _ _ _ => (dts_one (db_cmp (op_notInP hr) ok_notIn (dv_var 12) (dv_var 7) (by rfl)))) (fun _ _ _ _ _ => dv_int))) (dv_ofL (de_lst da_nil)) (nomark _)))))) (dss_one (ds_ret dv_bl)) dss_nil)
    (dss_one (ds_if (db_cmp (op_neP hr) ok_ne (dv_and (dv_var 11) (dv_one (dv_call (ok_lies_within C) hgd (hr.mono (by decide)) (by rfl) C.d_lies_within.mg C.d_lies_within.fn.kp C.d_lies_within.bd (da_cons (dv_var 3) (da_cons (dv_var 10) (da_cons (dv_var 9) da_nil)))))) (dv_cmp (op_eqP hr) ok_eq (dv_var 9) (dv_var 10) (nomark _)) (nomark _)) (dss_one (ds_ret dv_bl)) dss_nil))))))))
    (dss_one (ds_if (db_cmp (op_neP hr) ok_ne (dv_callB (cr_repr hr hgd) ok_repr (by rfl) C.b_repr PyProof.Rows.boot_repr (da_cons (dv_var 4) da_nil)) (dv_var 5) (nomark _)) (dss_one (ds_ret dv_bl)) dss_nil)))))))))
    (dss_one (ds_ret dv_bl)))
theorem ok__law_deck (C : Ctx K mg) : FnG P w K mg base CX0 1 C.a__law_deck C.q__law_deck ["script"] (DL.spDeck K) := by
  refine okG C.d__law_deck.fn sc__law_deck (fun vs H Q E h => ?_) (fun cdv A outer s H vs Q E hg hr h => ?_)
  · obtain ⟨a, ns, rfl, _⟩ := h
    rfl
  · obtain ⟨a, ns, rfl, hS, hl, q⟩ := h
    refine ⟨_, pss_cons (ps_set (i := 1) sc__law_deck.nd rfl (.inl rfl) pe_int)
      (pss_cons (ps_for PassesOwn.never rfl (pi_list (pe_slice sl_list (pv 0) po_none (po_some pe_int))) (pg_name (i := 2) sc__law_deck.nd rfl (.inl rfl))
          (pss_one (ps_set (i := 1) sc__law_deck.nd rfl (.inl rfl) (pe_op op_mod (pe_callTy call_int1 (by rfl) C.b_int PyProof.Rows.boot_int (pa_cons (pe_op op_add (pe_op op_add (pe_op op_mul (pv 1) pe_int) (pe_op op_mod (pe_callTy call_int1 (by rfl) C.b_int PyProof.Rows.boot_int (pa_cons (pv 2) pa_nil)) pe_int)) pe_int) pa_nil)) pe_int))))
      (pss_one (ps_ret (pe_disp (pps_cons pe_str (pe_revL (pe_callTy call_list_of (by rfl) C.b_list PyProof.Rows.boot_list (pa_cons (pe_slice sl_list (pv 0) po_none (po_some pe_int)) pa_nil))) (pps_cons pe_str (pv 1) (pps_cons pe_str pe_int pps_nil))) rfl rfl (fun z => by cases z) (by decide))))), ?_⟩
    exact deck_reads ⟨by decide, by decide⟩ (by decide) (by decide) hS hl q
/-- the law, from what its body reckons -/
theorem ok_whole (C : Ctx K mg) (hlaw : ∀ dk : Dk, ∃ dk', ∃ ρ', b_law ⟨none :: some (.val .deck) :: List.replicate (N_law.length - 2) none, dk⟩ = some (.rt (.d (.bool true)), ⟨ρ', dk'⟩)) : FnG P w K mg base CX0 7 C.a_law C.q_law ["script"] (DL.spLaw K) :=
  DL.ok_law C.d_law C.d__law_deck sc_law (by rfl) (ok__law_deck C |>.mono (by decide)) rfl rfl (by first | exact Or.inl rfl | exact Or.inr (Or.inl rfl)) (by first | exact Or.inl rfl | exact Or.inr rfl) rfl (fun cdv A outer s H E hgd hr => ok_body C cdv A outer s H E hgd hr) hlaw
end
theorem all_mk (hlaw : ∀ dk : Dk, ∃ dk', ∃ ρ', b_law ⟨none :: some (.val .deck) :: List.replicate (N_law.length - 2) none, dk⟩ = some (.rt (.d (.bool true)), ⟨ρ', dk'⟩)) {l : PySem.W.OpenLaw} {w : World} {K : PySem.W.Frag} {h : Heap} {mg : Str → Option Value} {fa : Addr} (X : K.In h) (G : h.Ns mainGlobals mg) (hfa : mg "law" = some (.ref fa))
    {oc__law_deck : Value} {od__law_deck an__law_deck : Option Addr} {sl__law_deck : Array (Option Value)} {kV__law_deck dc__law_deck pm__law_deck cd__law_deck ct__law_deck : Value} {f__law_deck : Addr}
    {oc__law_draw : Value} {od__law_draw an__law_draw : Option Addr} {sl__law_draw : Array (Option Value)} {kV__law_draw dc__law_draw pm__law_draw cd__law_draw ct__law_draw : Value} {f__law_draw : Addr}
    {oc__law_pick : Value} {od__law_pick an__law_pick : Option Addr} {sl__law_pick : Array (Option Value)} {kV__law_pick dc__law_pick pm__law_pick cd__law_pick ct__law_pick : Value} {f__law_pick : Addr}
    {oc__law_arc : Value} {od__law_arc an__law_arc : Option Addr} {sl__law_arc : Array (Option Value)} {kV__law_arc dc__law_arc pm__law_arc cd__law_arc ct__law_arc : Value} {f__law_arc : Addr}
    {oc__law_within : Value} {od__law_within an__law_within : Option Addr} {sl__law_within : Array (Option Value)} {kV__law_within dc__law_within pm__law_within cd__law_within ct__law_within : Value} {f__law_within : Addr}
    {oc_is_integer : Value} {od_is_integer an_is_integer : Option Addr} {sl_is_integer : Array (Option Value)} {kV_is_integer dc_is_integer pm_is_integer cd_is_integer ct_is_integer : Value} {f_is_integer : Addr}
    {oc_is_between : Value} {od_is_between an_is_between : Option Addr} {sl_is_between : Array (Option Value)} {kV_is_between dc_is_between pm_is_between cd_is_between ct_is_between : Value} {f_is_between : Addr}
    {oc_is_arc_value : Value} {od_is_arc_value an_is_arc_value : Option Addr} {sl_is_arc_value : Array (Option Value)} {kV_is_arc_value dc_is_arc_value pm_is_arc_value cd_is_arc_value ct_is_arc_value : Value} {f_is_arc_value : Addr}
    {oc_need_arc : Value} {od_need_arc an_need_arc : Option Addr} {sl_need_arc : Array (Option Value)} {kV_need_arc dc_need_arc pm_need_arc cd_need_arc ct_need_arc : Value} {f_need_arc : Addr}
    {oc_part_of : Value} {od_part_of an_part_of : Option Addr} {sl_part_of : Array (Option Value)} {kV_part_of dc_part_of pm_part_of cd_part_of ct_part_of : Value} {f_part_of : Addr}
    {oc_within : Value} {od_within an_within : Option Addr} {sl_within : Array (Option Value)} {kV_within dc_within pm_within cd_within ct_within : Value} {f_within : Addr}
    {oc_arcs_within : Value} {od_arcs_within an_arcs_within : Option Addr} {sl_arcs_within : Array (Option Value)} {kV_arcs_within dc_arcs_within pm_arcs_within cd_arcs_within ct_arcs_within : Value} {f_arcs_within : Addr}
    {oc__law_near : Value} {od__law_near an__law_near : Option Addr} {sl__law_near : Array (Option Value)} {kV__law_near dc__law_near pm__law_near cd__law_near ct__law_near : Value} {f__law_near : Addr}
    {oc__law_lies : Value} {od__law_lies an__law_lies : Option Addr} {sl__law_lies : Array (Option Value)} {kV__law_lies dc__law_lies pm__law_lies cd__law_lies ct__law_lies : Value} {f__law_lies : Addr}
    {oc_need_arcs : Value} {od_need_arcs an_need_arcs : Option Addr} {sl_need_arcs : Array (Option Value)} {kV_need_arcs dc_need_arcs pm_need_arcs cd_need_arcs ct_need_arcs : Value} {f_need_arcs : Addr}
    {oc_is_within : Value} {od_is_within an_is_within : Option Addr} {sl_is_within : Array (Option Value)} {kV_is_within dc_is_within pm_is_within cd_is_within ct_is_within : Value} {f_is_within : Addr}
    {oc_lies_within : Value} {od_lies_within an_lies_within : Option Addr} {sl_lies_within : Array (Option Value)} {kV_lies_within dc_lies_within pm_lies_within cd_lies_within ct_lies_within : Value} {f_lies_within : Addr}
    {oc_law : Value} {od_law an_law : Option Addr} {sl_law : Array (Option Value)} {kV_law dc_law pm_law cd_law ct_law : Value} {f_law : Addr}
    (a__law_deck : PySem.W.nsIn K mainGlobals "_law_deck" = some (some (.ref f__law_deck))) (l__law_deck : K.lookup f__law_deck = some ⟨oc__law_deck, od__law_deck, .func (PySem.W.fnOf "_law_deck" "_law_deck" (defArgs s__law_deck) (defBody s__law_deck) (defScope s__law_deck) .none kV__law_deck dc__law_deck pm__law_deck an__law_deck cd__law_deck ct__law_deck), sl__law_deck⟩)
    (c__law_deck : PySem.W.codeIn K cd__law_deck "_law_deck" = true) (k__law_deck : PySem.W.keepIn K (.ref f__law_deck) = true)
    (a__law_draw : PySem.W.nsIn K mainGlobals "_law_draw" = some (some (.ref f__law_draw))) (l__law_draw : K.lookup f__law_draw = some ⟨oc__law_draw, od__law_draw, .func (PySem.W.fnOf "_law_draw" "_law_draw" (defArgs s__law_draw) (defBody s__law_draw) (defScope s__law_draw) .none kV__law_draw dc__law_draw pm__law_draw an__law_draw cd__law_draw ct__law_draw), sl__law_draw⟩)
    (c__law_draw : PySem.W.codeIn K cd__law_draw "_law_draw" = true) (k__law_draw : PySem.W.keepIn K (.ref f__law_draw) = true)
    (a__law_pick : PySem.W.nsIn K mainGlobals "_law_pick" = some (some (.ref f__law_pick))) (l__law_pick : K.lookup f__law_pick = some ⟨oc__law_pick, od__law_pick, .func (PySem.W.fnOf "_law_pick" "_law_pick" (defArgs s__law_pick) (defBody s__law_pick) (defScope s__law_pick) .none kV__law_pick dc__law_pick pm__law_pick an__law_pick cd__law_pick ct__law_pick), sl__law_pick⟩)
    (c__law_pick : PySem.W.codeIn K cd__law_pick "_law_pick" = true) (k__law_pick : PySem.W.keepIn K (.ref f__law_pick) = true)
    (a__law_arc : PySem.W.nsIn K mainGlobals "_law_arc" = some (some (.ref f__law_arc))) (l__law_arc : K.lookup f__law_arc = some ⟨oc__law_arc, od__law_arc, .func (PySem.W.fnOf "_law_arc" "_law_arc" (defArgs s__law_arc) (defBody s__law_arc) (defScope s__law_arc) .none kV__law_arc dc__law_arc pm__law_arc an__law_arc cd__law_arc ct__law_arc), sl__law_arc⟩)
    (c__law_arc : PySem.W.codeIn K cd__law_arc "_law_arc" = true) (k__law_arc : PySem.W.keepIn K (.ref f__law_arc) = true)
    (a__law_within : PySem.W.nsIn K mainGlobals "_law_within" = some (some (.ref f__law_within))) (l__law_within : K.lookup f__law_within = some ⟨oc__law_within, od__law_within, .func (PySem.W.fnOf "_law_within" "_law_within" (defArgs s__law_within) (defBody s__law_within) (defScope s__law_within) .none kV__law_within dc__law_within pm__law_within an__law_within cd__law_within ct__law_within), sl__law_within⟩)
    (c__law_within : PySem.W.codeIn K cd__law_within "_law_within" = true) (k__law_within : PySem.W.keepIn K (.ref f__law_within) = true)
    (a_is_integer : PySem.W.nsIn K mainGlobals "is_integer" = some (some (.ref f_is_integer))) (l_is_integer : K.lookup f_is_integer = some ⟨oc_is_integer, od_is_integer, .func (PySem.W.fnOf "is_integer" "is_integer" (defArgs s_is_integer) (defBody s_is_integer) (defScope s_is_integer) .none kV_is_integer dc_is_integer pm_is_integer an_is_integer cd_is_integer ct_is_integer), sl_is_integer⟩)
    (c_is_integer : PySem.W.codeIn K cd_is_integer "is_integer" = true) (k_is_integer : PySem.W.keepIn K (.ref f_is_integer) = true)
    (a_is_between : PySem.W.nsIn K mainGlobals "is_between" = some (some (.ref f_is_between))) (l_is_between : K.lookup f_is_between = some ⟨oc_is_between, od_is_between, .func (PySem.W.fnOf "is_between" "is_between" (defArgs s_is_between) (defBody s_is_between) (defScope s_is_between) .none kV_is_between dc_is_between pm_is_between an_is_between cd_is_between ct_is_between), sl_is_between⟩)
    (c_is_between : PySem.W.codeIn K cd_is_between "is_between" = true) (k_is_between : PySem.W.keepIn K (.ref f_is_between) = true)
    (a_is_arc_value : PySem.W.nsIn K mainGlobals "is_arc_value" = some (some (.ref f_is_arc_value))) (l_is_arc_value : K.lookup f_is_arc_value = some ⟨oc_is_arc_value, od_is_arc_value, .func (PySem.W.fnOf "is_arc_value" "is_arc_value" (defArgs s_is_arc_value) (defBody s_is_arc_value) (defScope s_is_arc_value) .none kV_is_arc_value dc_is_arc_value pm_is_arc_value an_is_arc_value cd_is_arc_value ct_is_arc_value), sl_is_arc_value⟩)
    (c_is_arc_value : PySem.W.codeIn K cd_is_arc_value "is_arc_value" = true) (k_is_arc_value : PySem.W.keepIn K (.ref f_is_arc_value) = true)
    (a_need_arc : PySem.W.nsIn K mainGlobals "need_arc" = some (some (.ref f_need_arc))) (l_need_arc : K.lookup f_need_arc = some ⟨oc_need_arc, od_need_arc, .func (PySem.W.fnOf "need_arc" "need_arc" (defArgs s_need_arc) (defBody s_need_arc) (defScope s_need_arc) .none kV_need_arc dc_need_arc pm_need_arc an_need_arc cd_need_arc ct_need_arc), sl_need_arc⟩)
    (c_need_arc : PySem.W.codeIn K cd_need_arc "need_arc" = true) (k_need_arc : PySem.W.keepIn K (.ref f_need_arc) = true)
    (a_part_of : PySem.W.nsIn K mainGlobals "part_of" = some (some (.ref f_part_of))) (l_part_of : K.lookup f_part_of = some ⟨oc_part_of, od_part_of, .func (PySem.W.fnOf "part_of" "part_of" (defArgs s_part_of) (defBody s_part_of) (defScope s_part_of) .none kV_part_of dc_part_of pm_part_of an_part_of cd_part_of ct_part_of), sl_part_of⟩)
    (c_part_of : PySem.W.codeIn K cd_part_of "part_of" = true) (k_part_of : PySem.W.keepIn K (.ref f_part_of) = true)
    (a_within : PySem.W.nsIn K mainGlobals "within" = some (some (.ref f_within))) (l_within : K.lookup f_within = some ⟨oc_within, od_within, .func (PySem.W.fnOf "within" "within" (defArgs s_within) (defBody s_within) (defScope s_within) .none kV_within dc_within pm_within an_within cd_within ct_within), sl_within⟩)
    (c_within : PySem.W.codeIn K cd_within "within" = true) (k_within : PySem.W.keepIn K (.ref f_within) = true)
    (a_arcs_within : PySem.W.nsIn K mainGlobals "arcs_within" = some (some (.ref f_arcs_within))) (l_arcs_within : K.lookup f_arcs_within = some ⟨oc_arcs_within, od_arcs_within, .func (PySem.W.fnOf "arcs_within" "arcs_within" (defArgs s_arcs_within) (defBody s_arcs_within) (defScope s_arcs_within) .none kV_arcs_within dc_arcs_within pm_arcs_within an_arcs_within cd_arcs_within ct_arcs_within), sl_arcs_within⟩)
    (c_arcs_within : PySem.W.codeIn K cd_arcs_within "arcs_within" = true) (k_arcs_within : PySem.W.keepIn K (.ref f_arcs_within) = true)
    (a__law_near : PySem.W.nsIn K mainGlobals "_law_near" = some (some (.ref f__law_near))) (l__law_near : K.lookup f__law_near = some ⟨oc__law_near, od__law_near, .func (PySem.W.fnOf "_law_near" "_law_near" (defArgs s__law_near) (defBody s__law_near) (defScope s__law_near) .none kV__law_near dc__law_near pm__law_near an__law_near cd__law_near ct__law_near), sl__law_near⟩)
    (c__law_near : PySem.W.codeIn K cd__law_near "_law_near" = true) (k__law_near : PySem.W.keepIn K (.ref f__law_near) = true)
    (a__law_lies : PySem.W.nsIn K mainGlobals "_law_lies" = some (some (.ref f__law_lies))) (l__law_lies : K.lookup f__law_lies = some ⟨oc__law_lies, od__law_lies, .func (PySem.W.fnOf "_law_lies" "_law_lies" (defArgs s__law_lies) (defBody s__law_lies) (defScope s__law_lies) .none kV__law_lies dc__law_lies pm__law_lies an__law_lies cd__law_lies ct__law_lies), sl__law_lies⟩)
    (c__law_lies : PySem.W.codeIn K cd__law_lies "_law_lies" = true) (k__law_lies : PySem.W.keepIn K (.ref f__law_lies) = true)
    (a_need_arcs : PySem.W.nsIn K mainGlobals "need_arcs" = some (some (.ref f_need_arcs))) (l_need_arcs : K.lookup f_need_arcs = some ⟨oc_need_arcs, od_need_arcs, .func (PySem.W.fnOf "need_arcs" "need_arcs" (defArgs s_need_arcs) (defBody s_need_arcs) (defScope s_need_arcs) .none kV_need_arcs dc_need_arcs pm_need_arcs an_need_arcs cd_need_arcs ct_need_arcs), sl_need_arcs⟩)
    (c_need_arcs : PySem.W.codeIn K cd_need_arcs "need_arcs" = true) (k_need_arcs : PySem.W.keepIn K (.ref f_need_arcs) = true)
    (a_is_within : PySem.W.nsIn K mainGlobals "is_within" = some (some (.ref f_is_within))) (l_is_within : K.lookup f_is_within = some ⟨oc_is_within, od_is_within, .func (PySem.W.fnOf "is_within" "is_within" (defArgs s_is_within) (defBody s_is_within) (defScope s_is_within) .none kV_is_within dc_is_within pm_is_within an_is_within cd_is_within ct_is_within), sl_is_within⟩)
    (c_is_within : PySem.W.codeIn K cd_is_within "is_within" = true) (k_is_within : PySem.W.keepIn K (.ref f_is_within) = true)
    (a_lies_within : PySem.W.nsIn K mainGlobals "lies_within" = some (some (.ref f_lies_within))) (l_lies_within : K.lookup f_lies_within = some ⟨oc_lies_within, od_lies_within, .func (PySem.W.fnOf "lies_within" "lies_within" (defArgs s_lies_within) (defBody s_lies_within) (defScope s_lies_within) .none kV_lies_within dc_lies_within pm_lies_within an_lies_within cd_lies_within ct_lies_within), sl_lies_within⟩)
    (c_lies_within : PySem.W.codeIn K cd_lies_within "lies_within" = true) (k_lies_within : PySem.W.keepIn K (.ref f_lies_within) = true)
    (a_law : PySem.W.nsIn K mainGlobals "law" = some (some (.ref f_law))) (l_law : K.lookup f_law = some ⟨oc_law, od_law, .func (PySem.W.fnOf "law" "law" (defArgs s_law) (defBody s_law) (defScope s_law) .none kV_law dc_law pm_law an_law cd_law ct_law), sl_law⟩)
    (c_law : PySem.W.codeIn K cd_law "law" = true) (k_law : PySem.W.keepIn K (.ref f_law) = true)
    (z_all : PySem.W.nsIn K mainGlobals "all" = some none)
    (z_bool : PySem.W.nsIn K mainGlobals "bool" = some none)
    (z_int : PySem.W.nsIn K mainGlobals "int" = some none)
    (z_isinstance : PySem.W.nsIn K mainGlobals "isinstance" = some none)
    (z_len : PySem.W.nsIn K mainGlobals "len" = some none)
    (z_list : PySem.W.nsIn K mainGlobals "list" = some none)
    (z_max : PySem.W.nsIn K mainGlobals "max" = some none)
    (z_range : PySem.W.nsIn K mainGlobals "range" = some none)
    (z_repr : PySem.W.nsIn K mainGlobals "repr" = some none)
    (z_sorted : PySem.W.nsIn K mainGlobals "sorted" = some none)
    (z_tuple : PySem.W.nsIn K mainGlobals "tuple" = some none)
    (z_zip : PySem.W.nsIn K mainGlobals "zip" = some none)
    : ∃ fd : FuncData, (∀ (s : Shared) (v : Value), BindsTo s fd ⟨[v], []⟩ [("script", v)]) ∧ ∀ base : Heap, K.In base → base.Ns mainGlobals mg → FnG l.prog w K mg base CX0 7 fa fd ["script"] (DL.spLaw K) := by
  have e := hfa.symm.trans (PySem.W.mg_of X G a_law)
  cases e
  have F__law_deck := fun_mk (st := s__law_deck) l__law_deck c__law_deck k__law_deck
  have F__law_draw := fun_mk (st := s__law_draw) l__law_draw c__law_draw k__law_draw
  have F__law_pick := fun_mk (st := s__law_pick) l__law_pick c__law_pick k__law_pick
  have F__law_arc := fun_mk (st := s__law_arc) l__law_arc c__law_arc k__law_arc
  have F__law_within := fun_mk (st := s__law_within) l__law_within c__law_within k__law_within
  have F_is_integer := fun_mk (st := s_is_integer) l_is_integer c_is_integer k_is_integer
  have F_is_between := fun_mk (st := s_is_between) l_is_between c_is_between k_is_between
  have F_is_arc_value := fun_mk (st := s_is_arc_value) l_is_arc_value c_is_arc_value k_is_arc_value
  have F_need_arc := fun_mk (st := s_need_arc) l_need_arc c_need_arc k_need_arc
  have F_part_of := fun_mk (st := s_part_of) l_part_of c_part_of k_part_of
  have F_within := fun_mk (st := s_within) l_within c_within k_within
  have F_arcs_within := fun_mk (st := s_arcs_within) l_arcs_within c_arcs_within k_arcs_within
  have F__law_near := fun_mk (st := s__law_near) l__law_near c__law_near k__law_near
  have F__law_lies := fun_mk (st := s__law_lies) l__law_lies c__law_lies k__law_lies
  have F_need_arcs := fun_mk (st := s_need_arcs) l_need_arcs c_need_arcs k_need_arcs
  have F_is_within := fun_mk (st := s_is_within) l_is_within c_is_within k_is_within
  have F_lies_within := fun_mk (st := s_lies_within) l_lies_within c_lies_within k_lies_within
  have F_law := fun_mk (st := s_law) l_law c_law k_law
  have B__law_deck := F__law_deck.binds (ps := ["script"]) fun _ _ _ _ _ _ us hl => match us, hl with | [_], _ => rfl
  have B__law_draw := F__law_draw.binds (ps := ["deck", "many"]) fun _ _ _ _ _ _ us hl => match us, hl with | [_, _], _ => rfl
  have B__law_pick := F__law_pick.binds (ps := ["deck", "some"]) fun _ _ _ _ _ _ us hl => match us, hl with | [_, _], _ => rfl
  have B__law_arc := F__law_arc.binds (ps := ["deck", "n"]) fun _ _ _ _ _ _ us hl => match us, hl with | [_, _], _ => rfl
  have B__law_within := F__law_within.binds (ps := ["arc"]) fun _ _ _ _ _ _ us hl => match us, hl with | [_], _ => rfl
  have B_is_integer := F_is_integer.binds (ps := ["thing"]) fun _ _ _ _ _ _ us hl => match us, hl with | [_], _ => rfl
  have B_is_between := F_is_between.binds (ps := ["thing", "least", "most"]) fun _ _ _ _ _ _ us hl => match us, hl with | [_, _, _], _ => rfl
  have B_is_arc_value := F_is_arc_value.binds (ps := ["n", "thing"]) fun _ _ _ _ _ _ us hl => match us, hl with | [_, _], _ => rfl
  have B_need_arc := F_need_arc.binds (ps := ["n", "arc"]) fun _ _ _ _ _ _ us hl => match us, hl with | [_, _], _ => rfl
  have B_part_of := F_part_of.binds (ps := ["arc", "c", "d"]) fun _ _ _ _ _ _ us hl => match us, hl with | [_, _, _], _ => rfl
  have B_within := F_within.binds (ps := ["arc"]) fun _ _ _ _ _ _ us hl => match us, hl with | [_], _ => rfl
  have B_arcs_within := F_arcs_within.binds (ps := ["n", "arc"]) fun _ _ _ _ _ _ us hl => match us, hl with | [_, _], _ => rfl
  have B__law_near := F__law_near.binds (ps := ["deck", "arc", "n"]) fun _ _ _ _ _ _ us hl => match us, hl with | [_, _, _], _ => rfl
  have B__law_lies := F__law_lies.binds (ps := ["one", "other"]) fun _ _ _ _ _ _ us hl => match us, hl with | [_, _], _ => rfl
  have B_need_arcs := F_need_arcs.binds (ps := ["n", "one", "other"]) fun _ _ _ _ _ _ us hl => match us, hl with | [_, _, _], _ => rfl
  have B_is_within := F_is_within.binds (ps := ["one", "other"]) fun _ _ _ _ _ _ us hl => match us, hl with | [_, _], _ => rfl
  have B_lies_within := F_lies_within.binds (ps := ["n", "one", "other"]) fun _ _ _ _ _ _ us hl => match us, hl with | [_, _, _], _ => rfl
  have B_law := F_law.binds (ps := ["script"]) fun _ _ _ _ _ _ us hl => match us, hl with | [_], _ => rfl
  let C : Ctx K mg := {
    a__law_deck := _, q__law_deck := _, d__law_deck := ⟨F__law_deck, PySem.W.mg_of X G a__law_deck, B__law_deck⟩,
    a__law_draw := _, q__law_draw := _, d__law_draw := ⟨F__law_draw, PySem.W.mg_of X G a__law_draw, B__law_draw⟩,
    a__law_pick := _, q__law_pick := _, d__law_pick := ⟨F__law_pick, PySem.W.mg_of X G a__law_pick, B__law_pick⟩,
    a__law_arc := _, q__law_arc := _, d__law_arc := ⟨F__law_arc, PySem.W.mg_of X G a__law_arc, B__law_arc⟩,
    a__law_within := _, q__law_within := _, d__law_within := ⟨F__law_within, PySem.W.mg_of X G a__law_within, B__law_within⟩,
    a_is_integer := _, q_is_integer := _, d_is_integer := ⟨F_is_integer, PySem.W.mg_of X G a_is_integer, B_is_integer⟩,
    a_is_between := _, q_is_between := _, d_is_between := ⟨F_is_between, PySem.W.mg_of X G a_is_between, B_is_between⟩,
    a_is_arc_value := _, q_is_arc_value := _, d_is_arc_value := ⟨F_is_arc_value, PySem.W.mg_of X G a_is_arc_value, B_is_arc_value⟩,
    a_need_arc := _, q_need_arc := _, d_need_arc := ⟨F_need_arc, PySem.W.mg_of X G a_need_arc, B_need_arc⟩,
    a_part_of := _, q_part_of := _, d_part_of := ⟨F_part_of, PySem.W.mg_of X G a_part_of, B_part_of⟩,
    a_within := _, q_within := _, d_within := ⟨F_within, PySem.W.mg_of X G a_within, B_within⟩,
    a_arcs_within := _, q_arcs_within := _, d_arcs_within := ⟨F_arcs_within, PySem.W.mg_of X G a_arcs_within, B_arcs_within⟩,
    a__law_near := _, q__law_near := _, d__law_near := ⟨F__law_near, PySem.W.mg_of X G a__law_near, B__law_near⟩,
    a__law_lies := _, q__law_lies := _, d__law_lies := ⟨F__law_lies, PySem.W.mg_of X G a__law_lies, B__law_lies⟩,
    a_need_arcs := _, q_need_arcs := _, d_need_arcs := ⟨F_need_arcs, PySem.W.mg_of X G a_need_arcs, B_need_arcs⟩,
    a_is_within := _, q_is_within := _, d_is_within := ⟨F_is_within, PySem.W.mg_of X G a_is_within, B_is_within⟩,
    a_lies_within := _, q_lies_within := _, d_lies_within := ⟨F_lies_within, PySem.W.mg_of X G a_lies_within, B_lies_within⟩,
    a_law := _, q_law := _, d_law := ⟨F_law, PySem.W.mg_of X G a_law, B_law⟩,
    b_all := PySem.W.mg_none_of X G z_all,
    b_bool := PySem.W.mg_none_of X G z_bool,
    b_int := PySem.W.mg_none_of X G z_int,
    b_isinstance := PySem.W.mg_none_of X G z_isinstance,
    b_len := PySem.W.mg_none_of X G z_len,
    b_list := PySem.W.mg_none_of X G z_list,
    b_max := PySem.W.mg_none_of X G z_max,
    b_range := PySem.W.mg_none_of X G z_range,
    b_repr := PySem.W.mg_none_of X G z_repr,
    b_sorted := PySem.W.mg_none_of X G z_sorted,
    b_tuple := PySem.W.mg_none_of X G z_tuple,
    b_zip := PySem.W.mg_none_of X G z_zip }
  exact ⟨_, fun s v => .of_eq rfl, fun base _ _ => ok_whole C hlaw⟩
end Lw
set_option maxRecDepth 100000
set_option maxHeartbeats 1000000
namespace Lw
open PySem DL
theorem lo_mod (z : Int) : -18446744073709551616 < z % 2147483647 := by omega
theorem hi_mod (z : Int) : z % 2147483647 < 18446744073709551616 := by omega
theorem draw_spec (dk : Dk) (m : Int) (h1 : 0 < m) (h2 : m < 1073741824) : ∃ (r : Int) (dk' : Dk), f__law_draw [.deck, .d (.int m)] dk = some (.d (.int r), dk') ∧ 0 ≤ r ∧ r < m := by
  obtain ⟨cells, mixed, draws, ok⟩ := dk
  rcases List.eq_nil_or_concat cells with rfl | ⟨cs, c, rfl⟩
  · simp [f__law_draw, b__law_draw, lo_mod, hi_mod, h1]
    exact ⟨Int.emod_nonneg _ (by omega), Int.emod_lt_of_pos _ h1⟩
  · have hl : cs.length < 1000 := by simp at ok; omega
    by_cases hb : c < 1000000000000000000
    · simp [f__law_draw, b__law_draw, lo_mod, hi_mod, h1, okLb_int, PySem.W.dataLt_int, hb]
      exact ⟨Int.emod_nonneg _ (by omega), Int.emod_lt_of_pos _ h1⟩
    · by_cases h3 : 2 < m
      · simp [f__law_draw, b__law_draw, lo_mod, hi_mod, h1, h2, okLb_int, PySem.W.dataLt_int, hb, h3, hl]
        exact ⟨Int.emod_nonneg _ (by omega), Int.emod_lt_of_pos _ h1⟩
      · simp [f__law_draw, b__law_draw, lo_mod, hi_mod, h1, h2, okLb_int, PySem.W.dataLt_int, hb, h3, hl]
        exact ⟨Int.emod_nonneg _ (by omega), Int.emod_lt_of_pos _ h1⟩
theorem pick_spec (dk : Dk) (xs : List PyData) (h1 : 0 < xs.length) (h2 : xs.length < 1073741824) (t : PyData) (ht : t = .list xs ∨ t = .tuple xs) : ∃ (x : PyData) (dk' : Dk), f__law_pick [.deck, .d t] dk = some (.d x, dk') ∧ x ∈ xs := by
  obtain ⟨r, dk', hd, h3, h4⟩ := draw_spec dk xs.length (by omega) (by omega)
  obtain ⟨k, rfl⟩ := Int.eq_ofNat_of_zero_le h3
  have hk : k < xs.length := by omega
  refine ⟨xs[k], dk', ?_, List.getElem_mem hk⟩
  have ha : L2.atI xs (k : Int) = some xs[k] := L2.atI_nat (List.getElem?_eq_getElem hk)
  rcases ht with rfl | rfl <;> simp [f__law_pick, b__law_pick, hd, ha]
end Lw
set_option maxRecDepth 100000
set_option maxHeartbeats 1000000
namespace Lw
open PySem DL
def arcD (a b : Int) (A : List Int) : PyData := .tuple [.int a, .int b, .tuple (A.map .int)]
structure IsArc (n a b : Int) (A : List Int) : Prop where
  a1 : 1 ≤ a
  ab : a < b
  bn : b ≤ n
  nn : n ≤ 40
  inr : ∀ x ∈ A, a < x ∧ x < b
  asc : A.Pairwise (· < ·)
theorem c1_arc (n a b few : Int) (dk : Dk) (h1 : 0 ≤ a) (h2 : b ≤ 40) (h3 : a < b) : ∃ (A : List Int) (dk' : Dk), A.Sublist (up (a + 1) (b - (a + 1)).toNat) ∧ c1__law_arc ⟨[some (.val .deck), some (.val (.d (.int n))), some (.val (.d (.int a))), some (.val (.d (.int b))), some (.val (.d (.int few))), none], dk⟩ = some (A.map .int, ⟨[some (.val .deck), some (.val (.d (.int n))), some (.val (.d (.int a))), some (.val (.d (.int b))), some (.val (.d (.int few))), none], dk'⟩) := by
  refine lComp_drawnI (dk := dk) (by have k1 := okR_t (i := a + 1) (by omega) (by omega); have k2 := okR_t (i := b) (by omega) (by omega); simp [k1, k2, rgD_up]) _ fun x hx dk => ?_
  obtain ⟨z, dk6, d6, z1, z2⟩ := draw_spec dk 2 (by omega) (by omega)
  by_cases q0 : few = 0
  · simp [okD_int, eqv_int, q0]
  · by_cases q1 : few > 1
    · by_cases q2 : z = 0
      · simp [okD_int, eqv_int, q0, q1, okLb_int, PySem.W.dataLt_int, d6, q2]
      · simp [okD_int, eqv_int, q0, q1, okLb_int, PySem.W.dataLt_int, d6, q2]
    · simp [okD_int, eqv_int, q0, q1, okLb_int, PySem.W.dataLt_int, d6]
theorem arc_spec (dk : Dk) (n : Int) (h1 : 2 ≤ n) (h2 : n ≤ 40) : ∃ (a b : Int) (A : List Int) (dk' : Dk), f__law_arc [.deck, .d (.int n)] dk = some (.d (arcD a b A), dk') ∧ IsArc n a b A := by
  obtain ⟨r, dk1, d1, r1, r2⟩ := draw_spec dk (n - 1) (by omega) (by omega)
  obtain ⟨a, ea⟩ : ∃ a, a = 1 + r := ⟨_, rfl⟩
  obtain ⟨s, dk2, d2, s1, s2⟩ := draw_spec dk1 (n - a) (by omega) (by omega)
  obtain ⟨t, dk3, d3, t1, t2⟩ := draw_spec dk2 (n - a) (by omega) (by omega)
  obtain ⟨b', dk4, d4, hb⟩ := pick_spec dk3 [.int n, .int (a + 1 + s), .int (a + 1 + t)] (by simp) (by simp) (.list [.int n, .int (a + 1 + s), .int (a + 1 + t)]) (.inl rfl)
  obtain ⟨b, rfl, hb1, hb2⟩ : ∃ b : Int, b' = .int b ∧ a < b ∧ b ≤ n := by
    simp only [List.mem_cons, List.not_mem_nil, or_false] at hb
    rcases hb with rfl | rfl | rfl
    · exact ⟨_, rfl, by omega, by omega⟩
    · exact ⟨_, rfl, by omega, by omega⟩
    · exact ⟨_, rfl, by omega, by omega⟩
  obtain ⟨few, dk5, d5, f1, f2⟩ := draw_spec dk4 5 (by omega) (by omega)
  obtain ⟨A, dk6, hA, d6⟩ := c1_arc n a b few dk5 (by omega) (by omega) hb1
  refine ⟨a, b, A, dk6, ?_, by omega, hb1, hb2, h2, fun x hx => ?_, (up_asc _ _).sublist hA⟩
  · simp [f__law_arc, b__law_arc, d1, ← ea, d2, d3, d4, d5, d6, arcD]
  · have := mem_up.mp (hA.subset hx)
    omega
/-- the points of A between c and d -/
def btw (c d : Int) (A : List Int) : List Int := A.filter fun x => decide (c < x) && decide (x < d)
def partsL (a b : Int) (A : List Int) : List PyData := (up a (b - a).toNat).flatMap fun c => (up (c + 1) (b + 1 - (c + 1)).toNat).map fun d => arcD c d (btw c d A)
theorem c1_within_ (a b c d : Int) (A : List Int) (x : Option Sl) (own : Option Sl) (dk : Dk) : c1__law_within ⟨[x, some (.val (.d (.int a))), some (.val (.d (.int b))), some (.val (.d (.tuple (A.map .int)))), own, some (.val (.d (.int c))), some (.val (.d (.int d))), none], dk⟩ = some ((btw c d A).map .int, ⟨[x, some (.val (.d (.int a))), some (.val (.d (.int b))), some (.val (.d (.tuple (A.map .int)))), own, some (.val (.d (.int c))), some (.val (.d (.int d))), none], dk⟩) := by
  refine lComp_ints (by simp [Function.comp_def]) _ _ fun x hx => ?_
  by_cases q1 : c < x
  · by_cases q2 : x < d
    · simp [q1, q2, okLb_int, PySem.W.dataLt_int]
    · simp [q1, q2, okLb_int, PySem.W.dataLt_int]
  · simp [q1, okLb_int, PySem.W.dataLt_int]
def stW (x : Option Sl) (a b : Int) (A : List Int) (acc : List PyData) (u v : Option Sl) (dk : Dk) : M := ⟨[x, some (.val (.d (.int a))), some (.val (.d (.int b))), some (.val (.d (.tuple (A.map .int)))), some (.lst acc), u, v, none], dk⟩
theorem parts_le (a b : Int) (A : List Int) (k : Nat) (h1 : 0 ≤ a) (h2 : b ≤ 40) (hk : k ≤ 40) : ((up a k).flatMap fun c => (up (c + 1) (b + 1 - (c + 1)).toNat).map fun d => arcD c d (btw c d A)).length ≤ 1600 := by
  refine Nat.le_trans (flat_rows _ 40 _ fun c hc => ?_) (by simp; omega)
  have := mem_up.mp hc
  simp; omega
theorem parts_len (a b : Int) (A : List Int) : ∀ k : Nat, (k : Int) ≤ b - a → 2 * (((up a k).flatMap fun c => (up (c + 1) (b + 1 - (c + 1)).toNat).map fun d => arcD c d (btw c d A)).length : Int) = k * (2 * (b - a) - k + 1)
  | 0, _ => by simp [up]
  | k + 1, h => by
    have ih := parts_len a b A k (by omega)
    have e : ((up a (k + 1)).flatMap fun c => (up (c + 1) (b + 1 - (c + 1)).toNat).map fun d => arcD c d (btw c d A)).length = ((up a k).flatMap fun c => (up (c + 1) (b + 1 - (c + 1)).toNat).map fun d => arcD c d (btw c d A)).length + (b - a - k).toNat := by
      simp [up, List.range_succ]
      omega
    rw [e]
    have h3 : ((b - a - k).toNat : Int) = b - a - k := by omega
    push_cast
    rw [h3, Int.mul_add, ih]
    grind
theorem alikeAll_ints : ∀ xs ys : List Int, PySem.W.alikeAll (xs.map PyData.int) (ys.map PyData.int) = true
  | [], _ => by simp [PySem.W.alikeAll]
  | _ :: _, [] => by simp [PySem.W.alikeAll]
  | x :: xs, y :: ys => by simp [PySem.W.alikeAll, PySem.W.alike, alikeAll_ints xs ys]
theorem alike_arc (a b c d : Int) (A B : List Int) : PySem.W.alike (arcD a b A) (arcD c d B) = true := by
  simp [arcD, PySem.W.alike, PySem.W.alikeAll, alikeAll_ints]
def Arcs (xs : List PyData) : Prop := ∀ x ∈ xs, ∃ a b A, x = arcD a b A
theorem depth_arc (a b : Int) (A : List Int) : (arcD a b A).depth ≤ 2 := by
  simp [arcD, PyData.depth, PyData.depthAll, (plain_ints A).2]
theorem depth_arcs : ∀ {xs : List PyData}, Arcs xs → PyData.depthAll xs ≤ 2
  | [], _ => by simp [PyData.depthAll]
  | x :: xs, h => by
    obtain ⟨a, b, A, rfl⟩ := h x List.mem_cons_self
    have h2 := depth_arcs (xs := xs) fun y hy => h y (List.mem_cons_of_mem _ hy)
    have h1 := depth_arc a b A
    simp only [PyData.depthAll]
    omega
theorem okSort_arcs {xs : List PyData} (h : Arcs xs) : okSort xs = true := by
  have h1 : (xs.all fun d => xs.all fun e => PySem.W.alike d e) = true := by
    simp only [List.all_eq_true]
    intro x hx y hy
    obtain ⟨a, b, A, rfl⟩ := h x hx
    obtain ⟨c, d, B, rfl⟩ := h y hy
    exact alike_arc ..
  have h2 : (xs.all fun d => match d with | .tuple (_ :: _) => true | _ => false) = true := by
    simp only [List.all_eq_true]
    intro x hx
    obtain ⟨a, b, A, rfl⟩ := h x hx
    rfl
  have h3 := depth_arcs h
  have h4 : PyData.depthAll xs ≤ 60 := by omega
  unfold okSort
  rw [h1]
  simp only [Bool.true_and, Bool.and_eq_true, Bool.or_eq_true, decide_eq_true_eq]
  exact ⟨.inl h2, h4⟩
theorem arcs_parts (a b : Int) (A : List Int) : Arcs (partsL a b A) := by
  intro x hx
  simp only [partsL, List.mem_flatMap, List.mem_map] at hx
  obtain ⟨c, _, d, _, rfl⟩ := hx
  exact ⟨_, _, _, rfl⟩
theorem l1_within_ (a b c : Int) (A : List Int) (x v : Option Sl) (acc : List PyData) (dk : Dk) (h1 : 0 ≤ a) (h2 : b ≤ 40) (h3 : a ≤ c) (h4 : c < b) (hl : acc.length ≤ 4000) :
    ∃ v', l1__law_within (stW x a b A acc (some (.val (.d (.int c)))) v dk) = some (.nx, stW x a b A (acc ++ (up (c + 1) (b + 1 - (c + 1)).toNat).map fun d => arcD c d (btw c d A)) (some (.val (.d (.int c)))) v' dk) := by
  obtain ⟨st', h5, v', rfl⟩ := sFor_up (it := (iRange2 (aCons (b2 (vVar 5) (cV (.d (.int 1))) fAdd) (aCons (b2 (vVar 2) (cV (.d (.int 1))) fAdd) aNil)))) (g := gSet 6) (body := lb1__law_within) (st := stW x a b A acc (some (.val (.d (.int c)))) v dk) (st1 := stW x a b A acc (some (.val (.d (.int c)))) v dk) (lo := c + 1) (n := (b + 1 - (c + 1)).toNat)
    (by have k1 := okR_t (i := c + 1) (by omega) (by omega); have k2 := okR_t (i := b + 1) (by omega) (by omega); simp [k1, k2, stW])
    (fun k st => ∃ v', st = stW x a b A (acc ++ (up (c + 1) k).map fun d => arcD c d (btw c d A)) (some (.val (.d (.int c)))) v' dk) ⟨v, by simp [up]⟩
    (fun i hi st hI => by
      obtain ⟨v', rfl⟩ := hI
      have := c1_within_ a b c (c + 1 + i) A x (some (.lst (acc ++ (up (c + 1) i).map fun d => arcD c d (btw c d A)))) dk
      have hl2 : acc.length + i < 16777216 := by omega
      refine ⟨stW x a b A (acc ++ (up (c + 1) (i + 1)).map fun d => arcD c d (btw c d A)) (some (.val (.d (.int c)))) (some (.val (.d (.int (c + 1 + i))))) dk, ?_, _, rfl⟩
      simp [lb1__law_within, stW, this, hl2]
      simp [up, List.range_succ, arcD])
  exact ⟨v', h5⟩
theorem l2_within_ (a b : Int) (A : List Int) (x u v : Option Sl) (dk : Dk) (h1 : 0 ≤ a) (h3 : a < b) (h2 : b ≤ 40) :
    ∃ u' v', l2__law_within (stW x a b A [] u v dk) = some (.nx, stW x a b A (partsL a b A) u' v' dk) := by
  obtain ⟨st', h5, u', v', rfl⟩ := sFor_up (it := (iRange2 (aCons (vVar 1) (aCons (vVar 2) aNil)))) (g := gSet 5) (body := lb2__law_within) (st := stW x a b A [] u v dk) (st1 := stW x a b A [] u v dk) (lo := a) (n := (b - a).toNat)
    (by have k1 := okR_t (i := a) (by omega) (by omega); have k2 := okR_t (i := b) (by omega) (by omega); simp [k1, k2, stW])
    (fun k st => ∃ u' v', st = stW x a b A ((up a k).flatMap fun c => (up (c + 1) (b + 1 - (c + 1)).toNat).map fun d => arcD c d (btw c d A)) u' v' dk) ⟨u, v, by simp [up]⟩
    (fun i hi st hI => by
      obtain ⟨u', v', rfl⟩ := hI
      obtain ⟨v2, h7⟩ := l1_within_ a b (a + i) A x v' ((up a i).flatMap fun c => (up (c + 1) (b + 1 - (c + 1)).toNat).map fun d => arcD c d (btw c d A)) dk h1 h2 (by omega) (by omega) (by
        have := parts_le a b A i h1 h2 (by omega)
        omega)
      refine ⟨_, by simpa [stW, lb2__law_within] using h7, some (.val (.d (.int (a + i)))), v2, ?_⟩
      simp [up, List.range_succ, stW])
  exact ⟨u', v', h5⟩
theorem within_spec (a b : Int) (A : List Int) (dk : Dk) (h1 : 0 ≤ a) (h3 : a < b) (h2 : b ≤ 40) : f__law_within [.d (arcD a b A)] dk = some (.d (.tuple (sortD (partsL a b A))), dk) := by
  obtain ⟨u, v, h⟩ := l2_within_ a b A (some (.val (.d (arcD a b A)))) none none dk h1 h3 h2
  have hs := okSort_arcs (arcs_parts a b A)
  simp only [stW, arcD] at h
  simp [f__law_within, b__law_within, arcD, h, hs]
theorem part_spec (a b c d : Int) (A : List Int) (dk : Dk) : f_part_of [.d (arcD a b A), .d (.int c), .d (.int d)] dk = some (.d (arcD c d (btw c d A)), dk) := by
  have h : c1_part_of ⟨[some (.val (.d (arcD a b A))), some (.val (.d (.int c))), some (.val (.d (.int d))), none], dk⟩ = some ((btw c d A).map .int, ⟨[some (.val (.d (arcD a b A))), some (.val (.d (.int c))), some (.val (.d (.int d))), none], dk⟩) := by
    refine lComp_ints (by simp [Function.comp_def, arcD]) _ _ fun x hx => ?_
    by_cases q1 : c < x
    · by_cases q2 : x < d
      · simp [q1, q2, okLb_int, PySem.W.dataLt_int]
      · simp [q1, q2, okLb_int, PySem.W.dataLt_int]
    · simp [q1, okLb_int, PySem.W.dataLt_int]
  simp [f_part_of, b_part_of, h]
  simp [arcD]
theorem c1_within_spec (a b : Int) (A : List Int) (dk : Dk) (h1 : 0 ≤ a) (h3 : a < b) (h2 : b ≤ 40) : c1_within ⟨[some (.val (.d (arcD a b A))), some (.val (.d (.int a))), some (.val (.d (.int b))), none, none], dk⟩ = some (partsL a b A, ⟨[some (.val (.d (arcD a b A))), some (.val (.d (.int a))), some (.val (.d (.int b))), none, none], dk⟩) := by
  have h0 : (up a (b - a).toNat).map (fun i => T.d (.int i)) = rgD a (b - a).toNat := (rgD_up _ _).symm
  refine lComp2_ints (xs := up a (b - a).toNat) (by rw [h0]; have k1 := okR_t (i := a) (by omega) (by omega); have k2 := okR_t (i := b) (by omega) (by omega); simp [k1, k2]) (fun c => up (c + 1) (b + 1 - (c + 1)).toNat) (fun c d => arcD c d (btw c d A)) ?_ fun c hc => ?_
  · have := flat_rows (fun c => up (c + 1) (b + 1 - (c + 1)).toNat) 40 (up a (b - a).toNat) fun c hc => by
      have := mem_up.mp hc
      simp; omega
    simp only [up_len] at this
    omega
  · have := mem_up.mp hc
    have k1 := okR_t (i := c + 1) (by omega) (by omega)
    have k2 := okR_t (i := b + 1) (by omega) (by omega)
    refine ⟨_, _, rfl, by simp [k1, k2, ← rgD_up]; rfl, by simp, fun d hd => ?_⟩
    simp [part_spec]
theorem arcs_spec (a b : Int) (A : List Int) (dk : Dk) (h1 : 0 ≤ a) (h3 : a < b) (h2 : b ≤ 40) : f_within [.d (arcD a b A)] dk = some (.d (.list (sortD (partsL a b A))), dk) := by
  have h := c1_within_spec a b A dk h1 h3 h2
  have hs := okSort_arcs (arcs_parts a b A)
  simp only [arcD] at h
  simp [f_within, b_within, arcD, h, hs]
end Lw
set_option maxRecDepth 100000
set_option maxHeartbeats 1000000
namespace Lw
open PySem DL
theorem cutL_1 {α : Type} (xs : List α) : cutL xs (some 1) none = xs.drop 1 := by
  unfold cutL
  rw [show (1 : Int) = ((1 : Nat) : Int) from rfl, HT.sIx_nat, HT.sIx_none]
  cases xs with
  | nil => rfl
  | cons x xs => simp
theorem bools_true {α : Type} : ∀ xs : List α, bools (xs.map fun _ => PyData.bool true) = some (xs.map fun _ => true)
  | [] => rfl
  | x :: xs => by simp [bools_true xs]
theorem between_spec (x lo hi : Int) (dk : Dk) : f_is_between [.d (.int x), .d (.int lo), .d (.int hi)] dk = some (.d (.bool (decide (lo ≤ x) && decide (x ≤ hi))), dk) := by
  by_cases q1 : x < lo <;> by_cases q2 : hi < x <;> simp [f_is_between, b_is_between, f_is_integer, b_is_integer, okLb_int, PySem.W.dataLt_int, q1, q2] <;> omega
theorem zip_asc {A : List Int} (h : A.Pairwise (· < ·)) {t : T} (ht : t ∈ zipD (A.map PyData.int) ((A.map PyData.int).drop 1)) : ∃ x y : Int, t = .d (.tuple [.int x, .int y]) ∧ x < y := by
  obtain ⟨p, hp, rfl⟩ := List.mem_map.mp ht
  rw [← List.map_drop, List.zip_map] at hp
  obtain ⟨⟨x, y⟩, hq, rfl⟩ := List.mem_map.mp hp
  refine ⟨x, y, rfl, ?_⟩
  obtain ⟨i, hi, e⟩ := List.mem_iff_getElem.mp hq
  simp only [List.getElem_zip, Prod.mk.injEq, List.getElem_drop] at e
  obtain ⟨e1, e2⟩ := e
  rw [← e1, ← e2]
  simp only [List.length_zip, List.length_drop] at hi
  exact List.pairwise_iff_getElem.mp h i (1 + i) (by omega) (by omega) (by omega)
theorem filt_true {α : Type} (xs : List α) : (xs.filter fun _ => true) = xs := List.filter_eq_self.mpr (by simp)
theorem is_arc_spec {n a b : Int} {A : List Int} (h : IsArc n a b A) (dk : Dk) : f_is_arc_value [.d (.int n), .d (arcD a b A)] dk = some (.d (.bool true), dk) := by
  have h1 : c1_is_arc_value ⟨[some (.val (.d (.int n))), some (.val (.d (arcD a b A))), none, none, none], dk⟩ = some ((A.filter fun _ => true).map fun _ => .bool true, ⟨[some (.val (.d (.int n))), some (.val (.d (arcD a b A))), none, none, none], dk⟩) := by
    refine lComp_ints (by simp [Function.comp_def, arcD]) (fun _ => true) _ fun x hx => ?_
    have := h.inr x hx
    have q1 : a + 1 ≤ x := by omega
    have q2 : x ≤ b - 1 := by omega
    simp [arcD, between_spec, q1, q2]
  have h2 : c2_is_arc_value ⟨[some (.val (.d (.int n))), some (.val (.d (arcD a b A))), none, none, none], dk⟩ = some (((zipD (A.map PyData.int) ((A.map PyData.int).drop 1)).filter fun _ => true).map fun _ => .bool true, ⟨[some (.val (.d (.int n))), some (.val (.d (arcD a b A))), none, none, none], dk⟩) := by
    refine lComp_pure (by simp [arcD, cutL_1]) (fun _ => true) _ fun t ht => ?_
    obtain ⟨x, y, rfl, hxy⟩ := zip_asc h.asc ht
    simp [okLb_int, PySem.W.dataLt_int, hxy]
  have q1 := h.a1
  have q2 := h.ab
  have q3 := h.bn
  have q4 : a ≤ n := by omega
  have q5 : a + 1 ≤ b := by omega
  simp only [arcD, filt_true] at h1 h2
  simp [f_is_arc_value, b_is_arc_value, arcD, h1, h2, bools_true, between_spec, q1, q3, q4, q5, okD_int, eqv_int]
theorem need_spec {n a b : Int} {A : List Int} (h : IsArc n a b A) (dk : Dk) : f_need_arc [.d (.int n), .d (arcD a b A)] dk = some (.d .none, dk) := by
  simp [f_need_arc, b_need_arc, is_arc_spec h]
theorem needs_spec {n a b c d : Int} {A B : List Int} (h : IsArc n a b A) (h' : IsArc n c d B) (dk : Dk) : f_need_arcs [.d (.int n), .d (arcD a b A), .d (arcD c d B)] dk = some (.d .none, dk) := by
  simp [f_need_arcs, b_need_arcs, need_spec h, need_spec h']
theorem arcs_within_spec {n a b : Int} {A : List Int} (h : IsArc n a b A) (dk : Dk) : f_arcs_within [.d (.int n), .d (arcD a b A)] dk = some (.d (.tuple (sortD (partsL a b A))), dk) := by
  have q1 := h.a1
  have q2 := h.ab
  have q3 := h.bn
  have q4 := h.nn
  simp [f_arcs_within, b_arcs_within, need_spec h, arcs_spec a b A dk (by omega) h.ab (by omega)]
def lies (c d : Int) (B : List Int) (a b : Int) (A : List Int) : Bool := decide (a ≤ c) && (decide (d ≤ b) && decide (B = btw c d A))
theorem eqv_tup (xs ys : List PyData) : PyData.eqv (.tuple xs) (.tuple ys) = PyData.eqvAll xs ys := by simp [PyData.eqv]
theorem lies_spec (c d : Int) (B : List Int) (a b : Int) (A : List Int) (dk : Dk) : f__law_lies [.d (arcD c d B), .d (arcD a b A)] dk = some (.d (.bool (lies c d B a b A)), dk) := by
  have h : c1__law_lies ⟨[some (.val (.d (arcD c d B))), some (.val (.d (arcD a b A))), some (.val (.d (.int c))), some (.val (.d (.int d))), some (.val (.d (.tuple (B.map .int)))), none], dk⟩ = some ((btw c d A).map .int, ⟨[some (.val (.d (arcD c d B))), some (.val (.d (arcD a b A))), some (.val (.d (.int c))), some (.val (.d (.int d))), some (.val (.d (.tuple (B.map .int)))), none], dk⟩) := by
    refine lComp_ints (by simp [Function.comp_def, arcD]) _ _ fun x hx => ?_
    by_cases q1 : c < x
    · by_cases q2 : x < d
      · simp [q1, q2, okLb_int, PySem.W.dataLt_int]
      · simp [q1, q2, okLb_int, PySem.W.dataLt_int]
    · simp [q1, okLb_int, PySem.W.dataLt_int]
  simp only [arcD] at h
  have e1 : (c < a) = ¬ a ≤ c := by simp
  have e2 : (b < d) = ¬ d ≤ b := by simp
  by_cases q1 : a ≤ c <;> by_cases q2 : d ≤ b <;> simp [f__law_lies, b__law_lies, arcD, lies, h, okLb_int, PySem.W.dataLt_int, e1, e2, q1, q2, okD_tup_ints, eqv_tup, eqvAll_ints]
theorem is_within_spec (c d : Int) (B : List Int) (a b : Int) (A : List Int) (dk : Dk) : f_is_within [.d (arcD c d B), .d (arcD a b A)] dk = some (.d (.bool (lies c d B a b A)), dk) := by
  have h : c1_is_within ⟨[some (.val (.d (arcD c d B))), some (.val (.d (arcD a b A))), some (.val (.d (.int c))), some (.val (.d (.int d))), some (.val (.d (.tuple (B.map .int)))), none], dk⟩ = some ((btw c d A).map .int, ⟨[some (.val (.d (arcD c d B))), some (.val (.d (arcD a b A))), some (.val (.d (.int c))), some (.val (.d (.int d))), some (.val (.d (.tuple (B.map .int)))), none], dk⟩) := by
    refine lComp_ints (by simp [Function.comp_def, arcD]) _ _ fun x hx => ?_
    by_cases q1 : c < x
    · by_cases q2 : x < d
      · simp [q1, q2, okLb_int, PySem.W.dataLt_int]
      · simp [q1, q2, okLb_int, PySem.W.dataLt_int]
    · simp [q1, okLb_int, PySem.W.dataLt_int]
  simp only [arcD] at h
  have e1 : (c < a) = ¬ a ≤ c := by simp
  have e2 : (b < d) = ¬ d ≤ b := by simp
  by_cases q1 : a ≤ c <;> by_cases q2 : d ≤ b <;> simp [f_is_within, b_is_within, arcD, lies, h, okLb_int, PySem.W.dataLt_int, e1, e2, q1, q2, okD_tup_ints, eqv_tup, eqvAll_ints]
theorem lies_within_spec {n a b c d : Int} {A B : List Int} (h : IsArc n c d B) (h' : IsArc n a b A) (dk : Dk) : f_lies_within [.d (.int n), .d (arcD c d B), .d (arcD a b A)] dk = some (.d (.bool (lies c d B a b A)), dk) := by
  simp [f_lies_within, b_lies_within, needs_spec h h', is_within_spec]
theorem part_is {n a b c d : Int} {A : List Int} (h : IsArc n a b A) (h1 : a ≤ c) (h2 : c < d) (h3 : d ≤ b) : IsArc n c d (btw c d A) := by
  have q1 := h.a1
  have q3 := h.bn
  refine ⟨by omega, h2, by omega, h.nn, fun x hx => ?_, h.asc.sublist List.filter_sublist⟩
  have := (List.mem_filter.mp hx).2
  simpa using this
theorem near_spec {n a b : Int} {A : List Int} (h : IsArc n a b A) (dk : Dk) : ∃ (c d : Int) (B : List Int) (dk' : Dk), f__law_near [.deck, .d (arcD a b A), .d (.int n)] dk = some (.d (arcD c d B), dk') ∧ IsArc n c d B := by
  have hs : ∃ (c d : Int) (B : List Int) (dk1 : Dk), IsArc n c d B ∧ sAsg (vIf (tBool (b2 (b2 (b2 (vVar 1) (cV (.d (.int 1))) fIdx) (b2 (vVar 1) (cV (.d (.int 0))) fIdx) fSub) (cV (.d (.int 12))) fLt)) (vDef (aCons (vVar 0) (aCons (vDef (aCons (vVar 1) aNil) 1 f__law_within) aNil)) 2 f__law_pick) (vVar 1)) (gUnpack 3 (gsCons (gSet 3) (gsCons (gSet 4) (gsCons (gSet 5) gsNil)))) ⟨[some (.val .deck), some (.val (.d (arcD a b A))), some (.val (.d (.int n))), none, none, none, none, none, none], dk⟩ =
      some (.nx, ⟨[some (.val .deck), some (.val (.d (arcD a b A))), some (.val (.d (.int n))), some (.val (.d (.int c))), some (.val (.d (.int d))), some (.val (.d (.tuple (B.map .int)))), none, none, none], dk1⟩) := by
    by_cases hb : b - a < 12
    · have q1 := h.a1
      have q2 := h.ab
      have q3 := h.bn
      have q4 := h.nn
      have hl : (sortD (partsL a b A)).length = (partsL a b A).length := (List.mergeSort_perm _ _).length_eq
      have hm : (partsL a b A).length ≤ 1600 := parts_le a b A _ (by omega) (by omega) (by omega)
      have h0 : arcD a b (btw a b A) ∈ partsL a b A := by
        simp only [partsL, List.mem_flatMap, List.mem_map]
        exact ⟨a, mem_up.mpr (by omega), b, mem_up.mpr (by omega), rfl⟩
      obtain ⟨x, dk1, h1, h2⟩ := pick_spec dk (sortD (partsL a b A)) (by rw [hl]; exact List.length_pos_of_mem h0) (by omega) (.tuple (sortD (partsL a b A))) (.inr rfl)
      have h3 : x ∈ partsL a b A := (List.mergeSort_perm _ _).mem_iff.mp h2
      simp only [partsL, List.mem_flatMap, List.mem_map] at h3
      obtain ⟨c, hc, d, hd, rfl⟩ := h3
      have hc := mem_up.mp hc
      have hd := mem_up.mp hd
      refine ⟨c, d, _, dk1, part_is h (by omega) (by omega) (by omega), ?_⟩
      have hw := within_spec a b A dk (by omega) h.ab (by omega)
      simp only [arcD] at hw h1
      simp [hw, h1, arcD, okLb_int, PySem.W.dataLt_int, hb]
    · refine ⟨a, b, A, dk, h, ?_⟩
      simp [arcD, okLb_int, PySem.W.dataLt_int, hb]
  obtain ⟨c, d, B, dk1, hB, hs⟩ := hs
  obtain ⟨way, dk2, h2, w1, w2⟩ := draw_spec dk1 5 (by omega) (by omega)
  have g1 := hB.a1
  have g2 := hB.ab
  have g3 := hB.bn
  have g4 := hB.nn
  have gl := asc_len hB.asc hB.inr g2
  have l1 : B.length + 1 ≤ sizeLine := by rw [sizeLine_eq]; omega
  have l2 : B.length ≤ sizeLine := by omega
  by_cases w0 : way = 0
  · obtain ⟨a', b', A', dk3, h3, h4⟩ := arc_spec dk2 n (by omega) (by omega)
    refine ⟨a', b', A', dk3, ?_, h4⟩
    show bodyF 9 b__law_near _ _ = _
    refine body_ex ?_
    unfold b__law_near
    refine seq_ex hs ?_
    simp [h2, w0, okD_int, eqv_int, h3]
  · by_cases w3 : way = 1 ∧ d - c > 1
    · obtain ⟨r, dk3, h3, r1, r2⟩ := draw_spec dk2 (d - c - 1) (by omega) (by omega)
      have h4 : c1__law_near ⟨[some (.val .deck), some (.val (.d (arcD a b A))), some (.val (.d (.int n))), some (.val (.d (.int c))), some (.val (.d (.int d))), some (.val (.d (.tuple (B.map .int)))), some (.val (.d (.int way))), some (.val (.d (.int (c + 1 + r)))), none], dk3⟩ = some (((up (c + 1) (d - (c + 1)).toNat).filter fun y => !((decide (y ∈ B)) == (c + 1 + r == y))).map .int, ⟨[some (.val .deck), some (.val (.d (arcD a b A))), some (.val (.d (.int n))), some (.val (.d (.int c))), some (.val (.d (.int d))), some (.val (.d (.tuple (B.map .int)))), some (.val (.d (.int way))), some (.val (.d (.int (c + 1 + r)))), none], dk3⟩) := by
        refine lComp_ints (by rw [← rgD_up]; have k1 := okR_t (i := c + 1) (by omega) (by omega); have k2 := okR_t (i := d) (by omega) (by omega); simp [k1, k2]) _ _ fun y hy => ?_
        simp [okD_int, okD_bool, okAll_ints, any_nn2, eqv_int, eqv_bool]
      obtain ⟨C, hC⟩ : ∃ C, C = (up (c + 1) (d - (c + 1)).toNat).filter fun y => !((decide (y ∈ B)) == (c + 1 + r == y)) := ⟨_, rfl⟩
      rw [← hC] at h4
      refine ⟨c, d, C, dk3, ?_, ⟨g1, g2, g3, g4, fun x hx => ?_, hC ▸ (up_asc _ _).sublist List.filter_sublist⟩⟩
      rotate_left
      · rw [hC] at hx
        have := mem_up.mp (List.mem_filter.mp hx).1
        omega
      rotate_left
      show bodyF 9 b__law_near _ _ = _
      refine body_ex ?_
      unfold b__law_near
      refine seq_ex hs ?_
      obtain ⟨rfl, w4⟩ := w3
      simp only [arcD] at h4
      simp [h2, okD_int, eqv_int, h3, w4, h4, okLb_int, PySem.W.dataLt_int, arcD]
    · by_cases w5 : way = 2 ∧ d < n
      · obtain ⟨rfl, w6⟩ := w5
        obtain ⟨r, dk3, h3, r1, r2⟩ := draw_spec dk2 2 (by omega) (by omega)
        by_cases r0 : r = 0
        · refine ⟨c, d + 1, B ++ [d], dk3, ?_, ⟨g1, by omega, by omega, g4, fun x hx => ?_, ?_⟩⟩
          · show bodyF 9 b__law_near _ _ = _
            refine body_ex ?_
            unfold b__law_near
            refine seq_ex hs ?_
            simp [h2, okD_int, eqv_int, h3, w6, r0, l1, l2, okLb_int, PySem.W.dataLt_int, arcD]
          · rcases List.mem_append.mp hx with h8 | h8
            · have := hB.inr x h8
              omega
            · simp at h8
              omega
          · rw [List.pairwise_append]
            refine ⟨hB.asc, by simp, fun x hx y hy => ?_⟩
            have := hB.inr x hx
            simp at hy
            omega
        · refine ⟨c, d + 1, B, dk3, ?_, ⟨g1, by omega, by omega, g4, fun x hx => ?_, hB.asc⟩⟩
          · show bodyF 9 b__law_near _ _ = _
            refine body_ex ?_
            unfold b__law_near
            refine seq_ex hs ?_
            simp [h2, okD_int, eqv_int, h3, w6, r0, l1, l2, okLb_int, PySem.W.dataLt_int, arcD]
          · have := hB.inr x hx
            omega
      · refine ⟨c, d, B, dk2, ?_, hB⟩
        show bodyF 9 b__law_near _ _ = _
        refine body_ex ?_
        unfold b__law_near
        refine seq_ex hs ?_
        by_cases w4 : way = 1
        · subst w4
          have w6 : ¬ (1 < d - c) := fun z => w3 ⟨rfl, z⟩
          simp [h2, okD_int, eqv_int, w6, okLb_int, PySem.W.dataLt_int, arcD]
        · by_cases w6 : way = 2
          · subst w6
            have w7 : ¬ d < n := fun z => w5 ⟨rfl, z⟩
            simp [h2, okD_int, eqv_int, w7, okLb_int, PySem.W.dataLt_int, arcD]
          · simp [h2, okD_int, eqv_int, w0, w4, w6, okLb_int, PySem.W.dataLt_int, arcD]
end Lw
set_option maxRecDepth 100000
set_option maxHeartbeats 4000000
namespace Lw
open PySem DL
theorem eqv_arc (a b c d : Int) (A B : List Int) : PyData.eqv (arcD a b A) (arcD c d B) = (a == c && (b == d && decide (A = B))) := by
  simp [arcD, PyData.eqv, PyData.eqvAll, eqvAll_ints]
theorem okD_arc (a b : Int) (A : List Int) : okD (arcD a b A) = true := by
  refine okD_iff.mpr ⟨?_, Nat.le_trans (depth_arc a b A) (by decide)⟩
  simp [arcD, PyData.plain, PyData.plainAll, (plain_ints A).1]
theorem plain_arcs : ∀ {xs : List PyData}, Arcs xs → PyData.plainAll xs = true
  | [], _ => rfl
  | x :: xs, h => by
    obtain ⟨a, b, A, rfl⟩ := h x List.mem_cons_self
    have h2 := plain_arcs (xs := xs) fun y hy => h y (List.mem_cons_of_mem _ hy)
    simp only [PyData.plainAll, h2, (okD_iff.mp (okD_arc a b A)).1, Bool.and_self]
theorem okAll_arcs {xs : List PyData} (h : Arcs xs) : okAll xs = true := okAll_iff.mpr ⟨plain_arcs h, Nat.le_trans (depth_arcs h) (by decide)⟩
theorem mem_sort {x : PyData} {xs : List PyData} : x ∈ sortD xs ↔ x ∈ xs := (List.mergeSort_perm _ _).mem_iff
theorem arcs_sort {xs : List PyData} (h : Arcs xs) : Arcs (sortD xs) := fun x hx => h x (mem_sort.mp hx)
theorem btw_btw {c d e f : Int} {A : List Int} (h1 : c ≤ e) (h2 : f ≤ d) : btw e f (btw c d A) = btw e f A := by
  unfold btw
  rw [List.filter_filter]
  refine List.filter_congr fun x _ => ?_
  by_cases q1 : e < x <;> by_cases q2 : x < f <;> simp [q1, q2] <;> omega
theorem btw_all {a b : Int} {A : List Int} (h : ∀ x ∈ A, a < x ∧ x < b) : btw a b A = A := by
  unfold btw
  refine List.filter_eq_self.mpr fun x hx => ?_
  have := h x hx
  simp [this]
theorem lies_iff {c d : Int} {B : List Int} {a b : Int} {A : List Int} : lies c d B a b A = true ↔ a ≤ c ∧ d ≤ b ∧ B = btw c d A := by simp [lies]
theorem lies_both {n c d e f : Int} {B C : List Int} (h : IsArc n c d B) (h' : IsArc n e f C) : (lies c d B e f C && lies e f C c d B) = (c == e && (d == f && decide (B = C))) := by
  rw [Bool.eq_iff_iff]
  simp only [Bool.and_eq_true, lies_iff, beq_iff_eq, decide_eq_true_eq]
  constructor
  · rintro ⟨⟨h1, h2, h3⟩, h4, h5, h6⟩
    have e1 : c = e := by omega
    have e2 : d = f := by omega
    subst e1 e2
    exact ⟨rfl, rfl, by rw [h3, btw_all h'.inr]⟩
  · rintro ⟨rfl, rfl, rfl⟩
    exact ⟨⟨by omega, by omega, (btw_all h.inr).symm⟩, by omega, by omega, (btw_all h.inr).symm⟩
theorem parts_sub {c d : Int} {B : List Int} {a b : Int} {A : List Int} (h : lies c d B a b A = true) {x : PyData} (hx : x ∈ partsL c d B) : x ∈ partsL a b A := by
  obtain ⟨h1, h2, rfl⟩ := lies_iff.mp h
  simp only [partsL, List.mem_flatMap, List.mem_map] at hx ⊢
  obtain ⟨e, he, f, hf, rfl⟩ := hx
  have he := mem_up.mp he
  have hf := mem_up.mp hf
  exact ⟨e, mem_up.mpr (by omega), f, mem_up.mpr (by omega), by rw [btw_btw (by omega) (by omega)]⟩
theorem fine_arc {n a b : Int} {A : List Int} (h : IsArc n a b A) : fine 2 (arcD a b A) = true := by
  have q1 := h.a1
  have q2 := h.ab
  have q3 := h.bn
  have q4 := h.nn
  have hA : fineAll 0 (A.map PyData.int) = true := fineAll_ints fun x hx => by
    have := h.inr x hx
    omega
  simp only [arcD, fine, fineAll, hA, Bool.and_true, Bool.and_eq_true, decide_eq_true_eq]
  omega
theorem bulk_arc {n a b : Int} {A : List Int} (h : IsArc n a b A) : (arcD a b A).bulk ≤ 50 := by
  have q1 := h.a1
  have q2 := h.ab
  have q3 := h.bn
  have q4 := h.nn
  have := asc_len h.asc h.inr h.ab
  simp only [arcD, PyData.bulk, PyData.bulkAll, bulk_ints]
  omega
theorem parts_is {n a b : Int} {A : List Int} (h : IsArc n a b A) {x : PyData} (hx : x ∈ sortD (partsL a b A)) : ∃ c d C, x = arcD c d C ∧ IsArc n c d C := by
  have hx := mem_sort.mp hx
  simp only [partsL, List.mem_flatMap, List.mem_map] at hx
  obtain ⟨e, he, f, hf, rfl⟩ := hx
  have he := mem_up.mp he
  have hf := mem_up.mp hf
  exact ⟨_, _, _, rfl, part_is h (by omega) (by omega) (by omega)⟩
theorem okS_arc {n a b : Int} {A : List Int} (h : IsArc n a b A) : okS (arcD a b A) = true := okS_fine (k := 2) (by decide) (fine_arc h) (Nat.le_trans (bulk_arc h) (by decide))
theorem sort_len (a b : Int) (A : List Int) : (sortD (partsL a b A)).length = (partsL a b A).length := (List.mergeSort_perm _ _).length_eq
theorem okS_told {n a b : Int} {A : List Int} (h : IsArc n a b A) : okS (.tuple [.tuple (sortD (partsL a b A)), .tuple (sortD (partsL a b A))]) = true := by
  have q1 := h.a1
  have q2 := h.ab
  have q3 := h.bn
  have q4 := h.nn
  have hf : fineAll 2 (sortD (partsL a b A)) = true := fineAll_iff.mpr fun x hx => by
    obtain ⟨c, d, C, rfl, hC⟩ := parts_is h hx
    exact fine_arc hC
  have hb : PyData.bulkAll (sortD (partsL a b A)) ≤ (sortD (partsL a b A)).length * 51 := bulkAll_le fun x hx => by
    obtain ⟨c, d, C, rfl, hC⟩ := parts_is h hx
    exact bulk_arc hC
  have hm : (partsL a b A).length ≤ 1600 := parts_le a b A _ (by omega) (by omega) (by omega)
  rw [sort_len] at hb
  refine okS_fine (k := 4) (by decide) ?_ ?_
  · simp only [fine, fineAll, hf, Bool.and_self]
  · simp only [PyData.bulk, PyData.bulkAll]
    omega
theorem okS_bools (x y : Bool) : okS (.tuple [.bool x, .bool y]) = true := by cases x <;> cases y <;> decide
end Lw
set_option maxRecDepth 100000
set_option maxHeartbeats 4000000
namespace Lw
open PySem DL
theorem any_self {xs : List PyData} {x : PyData} (hx : x ∈ xs) (h : PyData.eqv x x = true) : (xs.any fun y => PyData.eqv y x) = true := List.any_eq_true.mpr ⟨x, hx, h⟩
theorem c1_law_spec {n a b c d : Int} {A B : List Int} (h : IsArc n a b A) (h' : IsArc n c d B) (hl : lies c d B a b A = true) (t1 t2 t5 t6 t8 t10 t11 : Option Sl) (dk : Dk) :
    c1_law ⟨[none, t1, t2, some (.val (.d (.int n))), some (.val (.d (arcD a b A))), t5, t6, some (.val (.d (.tuple (sortD (partsL a b A))))), t8, some (.val (.d (arcD c d B))), t10, t11, none], dk⟩ =
      some ([], ⟨[none, t1, t2, some (.val (.d (.int n))), some (.val (.d (arcD a b A))), t5, t6, some (.val (.d (.tuple (sortD (partsL a b A))))), t8, some (.val (.d (arcD c d B))), t10, t11, none], dk⟩) := by
  have e : ([] : List PyData) = (((sortD (partsL c d B)).map T.d).filter fun _ => false).map fun _ => PyData.int 1 := by simp
  rw [e]
  refine lComp_pure (by simp [arcs_within_spec h']) (fun _ => false) (fun _ => PyData.int 1) fun t ht => ?_
  obtain ⟨x, hx, rfl⟩ := List.mem_map.mp ht
  obtain ⟨c', d', C, rfl, hC⟩ := parts_is h' hx
  have hm : arcD c' d' C ∈ sortD (partsL a b A) := mem_sort.mpr (parts_sub hl (mem_sort.mp hx))
  have ha := any_self hm (by simp [eqv_arc])
  have ho := okAll_arcs (arcs_sort (arcs_parts a b A))
  have hd := okD_arc c' d' C
  simp [ha, ho, hd]
theorem inner {n a b : Int} {A : List Int} (h : IsArc n a b A) (i : Int) (t2 t5 t6 u9 u10 u11 : Option Sl) (dk : Dk) : ∃ u9' u10' u11' dk', lb1_law ⟨[none, some (.val .deck), t2, some (.val (.d (.int n))), some (.val (.d (arcD a b A))), t5, t6, some (.val (.d (.tuple (sortD (partsL a b A))))), some (.val (.d (.int i))), u9, u10, u11, none], dk⟩ =
      some (.nx, ⟨[none, some (.val .deck), t2, some (.val (.d (.int n))), some (.val (.d (arcD a b A))), t5, t6, some (.val (.d (.tuple (sortD (partsL a b A))))), some (.val (.d (.int i))), u9', u10', u11', none], dk'⟩) := by
  obtain ⟨c, d, B, dk1, hn, hB⟩ := near_spec h dk
  by_cases hi : i > 4
  · obtain ⟨e, f, C, dk2, hn2, hC⟩ := near_spec h dk1
    have h1 := lies_spec c d B e f C dk2
    have h2 := lies_within_spec hB hC dk2
    have h3 := lies_within_spec hC hB dk2
    have h4 := okS_bools (lies c d B e f C) (lies c d B e f C)
    have h5 := lies_both hB hC
    have h6 := eqv_arc c d e f B C
    have o1 := okD_arc c d B
    have o2 := okD_arc e f C
    have hi2 : ¬ i < 2 := by omega
    refine ⟨some (.val (.d (arcD c d B))), some (.val (.d (arcD e f C))), some (.val (.d (.bool (lies c d B e f C)))), dk2, ?_⟩
    rw [← h5] at h6
    cases hl : lies c d B e f C <;> rw [hl] at h1 h2 h4 h6 <;> simp [lb1_law, hn, hn2, h1, h2, h3, h4, h6, o1, o2, okLb_int, PySem.W.dataLt_int, hi, hi2, okD_str, okD_bool, eqv_str, eqv_bool]
  · have h1 := lies_spec c d B a b A dk1
    have h2 := lies_within_spec hB h dk1
    have h3 := lies_within_spec h hB dk1
    have h4 := okS_bools (lies c d B a b A) (lies c d B a b A)
    have h5 := lies_both hB h
    have h6 := eqv_arc c d a b B A
    have o1 := okD_arc c d B
    have o2 := okD_arc a b A
    refine ⟨some (.val (.d (arcD c d B))), some (.val (.d (arcD a b A))), some (.val (.d (.bool (lies c d B a b A)))), dk1, ?_⟩
    rw [← h5] at h6
    have o3 : okD (.list []) = true := by decide
    have o4 : PyData.eqv (.list []) (.list []) = true := by decide
    by_cases hi2 : i < 2
    · cases hl : lies c d B a b A with
      | true =>
        have h7 := c1_law_spec h hB hl (some (.val .deck)) t2 t5 t6 (some (.val (.d (.int i)))) (some (.val (.d (arcD a b A)))) (some (.val (.d (.bool true)))) dk1
        rw [hl] at h1 h2 h4 h6
        simp [lb1_law, hn, h1, h2, h3, h4, h6, h7, o1, o2, o3, o4, okLb_int, PySem.W.dataLt_int, hi, hi2, okD_str, okD_bool, eqv_str, eqv_bool]
      | false =>
        rw [hl] at h1 h2 h4 h6
        simp [lb1_law, hn, h1, h2, h3, h4, h6, o1, o2, o3, o4, okLb_int, PySem.W.dataLt_int, hi, hi2, okD_str, okD_bool, eqv_str, eqv_bool]
    · cases hl : lies c d B a b A <;> rw [hl] at h1 h2 h4 h6 <;> simp [lb1_law, hn, h1, h2, h3, h4, h6, o1, o2, okLb_int, PySem.W.dataLt_int, hi, hi2, okD_str, okD_bool, eqv_str, eqv_bool]
theorem inner_all {n a b : Int} {A : List Int} (h : IsArc n a b A) (t2 t5 t6 u8 u9 u10 u11 : Option Sl) (dk : Dk) : ∃ u8' u9' u10' u11' dk', l1_law ⟨[none, some (.val .deck), t2, some (.val (.d (.int n))), some (.val (.d (arcD a b A))), t5, t6, some (.val (.d (.tuple (sortD (partsL a b A))))), u8, u9, u10, u11, none], dk⟩ =
      some (.nx, ⟨[none, some (.val .deck), t2, some (.val (.d (.int n))), some (.val (.d (arcD a b A))), t5, t6, some (.val (.d (.tuple (sortD (partsL a b A))))), u8', u9', u10', u11', none], dk'⟩) := by
  obtain ⟨st', h5, v8, v9, v10, v11, dk', rfl⟩ := sFor_up (it := (iRange1 (aCons (cV (.d (.int 8))) aNil))) (g := gSet 8) (body := lb1_law) (st := ⟨[none, some (.val .deck), t2, some (.val (.d (.int n))), some (.val (.d (arcD a b A))), t5, t6, some (.val (.d (.tuple (sortD (partsL a b A))))), u8, u9, u10, u11, none], dk⟩) (st1 := ⟨[none, some (.val .deck), t2, some (.val (.d (.int n))), some (.val (.d (arcD a b A))), t5, t6, some (.val (.d (.tuple (sortD (partsL a b A))))), u8, u9, u10, u11, none], dk⟩) (lo := 0) (n := 8)
    (by have k1 : okR 8 = true := by decide
        simp [k1])
    (fun k st => ∃ v8 v9 v10 v11 dk', st = ⟨[none, some (.val .deck), t2, some (.val (.d (.int n))), some (.val (.d (arcD a b A))), t5, t6, some (.val (.d (.tuple (sortD (partsL a b A))))), v8, v9, v10, v11, none], dk'⟩) ⟨_, _, _, _, _, rfl⟩
    (fun i hi st hI => by
      obtain ⟨v8, v9, v10, v11, dk', rfl⟩ := hI
      obtain ⟨w9, w10, w11, dk2, h⟩ := inner h (0 + i) t2 t5 t6 v9 v10 v11 dk'
      exact ⟨_, h, _, _, _, _, _, rfl⟩)
  exact ⟨v8, v9, v10, v11, dk', h5⟩
end Lw
set_option maxRecDepth 100000
set_option maxHeartbeats 4000000
namespace Lw
open PySem DL
theorem first_n (dk : Dk) : ∃ (n : Int) (dk' : Dk), (2 ≤ n ∧ n ≤ 9 ∨ n = 40) ∧ ∃ (dk1 : Dk) (x : Int), f__law_pick [.deck, .d (.list [.int 9, .int 40, .int 8])] dk = some (.d (.int x), dk1) ∧ f__law_pick [.deck, .d (.list [.int 3, .int 5, .int 4, .int 8, .int 2, .int 6, .int 9, .int 4, .int 7, .int x])] dk1 = some (.d (.int n), dk') := by
  obtain ⟨y, dk1, h1, h2⟩ := pick_spec dk [.int 9, .int 40, .int 8] (by simp) (by simp) _ (.inl rfl)
  obtain ⟨x, rfl, hx⟩ : ∃ x : Int, y = .int x ∧ (x = 9 ∨ x = 40 ∨ x = 8) := by
    simp only [List.mem_cons, List.not_mem_nil, or_false] at h2
    rcases h2 with rfl | rfl | rfl
    · exact ⟨_, rfl, by omega⟩
    · exact ⟨_, rfl, by omega⟩
    · exact ⟨_, rfl, by omega⟩
  obtain ⟨z, dk2, h3, h4⟩ := pick_spec dk1 [.int 3, .int 5, .int 4, .int 8, .int 2, .int 6, .int 9, .int 4, .int 7, .int x] (by simp) (by simp) _ (.inl rfl)
  obtain ⟨n, rfl, hn⟩ : ∃ n : Int, z = .int n ∧ (2 ≤ n ∧ n ≤ 9 ∨ n = 40) := by
    simp only [List.mem_cons, List.not_mem_nil, or_false] at h4
    rcases h4 with rfl | rfl | rfl | rfl | rfl | rfl | rfl | rfl | rfl | rfl <;> exact ⟨_, rfl, by omega⟩
  exact ⟨n, dk2, hn, dk1, x, h1, h3⟩
theorem first_arc (n : Int) (hn : 2 ≤ n ∧ n ≤ 9 ∨ n = 40) (t2 u4 u5 u6 u7 u8 u9 u10 u11 : Option Sl) (dk : Dk) : ∃ (a b : Int) (A : List Int) (dk' : Dk), IsArc n a b A ∧ sAsg (vIf (tBool (b2 (vVar 3) (cV (.d (.int 40))) fLt)) (vDef (aCons (vVar 1) (aCons (vVar 3) aNil)) 2 f__law_arc) (vTup (aCons (cV (.d (.int 1))) (aCons (b2 (cV (.d (.int 12))) (vDef (aCons (vVar 1) (aCons (cV (.d (.int 8))) aNil)) 2 f__law_draw) fAdd) (aCons (vTup (aCons (cV (.d (.int 5))) (aCons (cV (.d (.int 9))) aNil))) aNil))))) (gSet 4) ⟨[none, some (.val .deck), t2, some (.val (.d (.int n))), u4, u5, u6, u7, u8, u9, u10, u11, none], dk⟩ =
    some (.nx, ⟨[none, some (.val .deck), t2, some (.val (.d (.int n))), some (.val (.d (arcD a b A))), u5, u6, u7, u8, u9, u10, u11, none], dk'⟩) := by
  by_cases h : n < 40
  · obtain ⟨a, b, A, dk', h1, h2⟩ := arc_spec dk n (by omega) (by omega)
    refine ⟨a, b, A, dk', h2, ?_⟩
    simp [h, h1, okLb_int, PySem.W.dataLt_int]
  · obtain ⟨r, dk', h1, r1, r2⟩ := draw_spec dk 8 (by omega) (by omega)
    refine ⟨1, 12 + r, [5, 9], dk', ⟨by omega, by omega, by omega, by omega, fun x hx => ?_, by simp⟩, ?_⟩
    · simp only [List.mem_cons, List.not_mem_nil, or_false] at hx
      omega
    · simp [h, h1, okLb_int, PySem.W.dataLt_int, arcD]
theorem told_len {n a b : Int} {A : List Int} (h : IsArc n a b A) : 2 * ((sortD (partsL a b A)).length : Int) = (b - a) * (b - a + 1) := by
  have q2 := h.ab
  rw [sort_len]
  have := parts_len a b A (b - a).toNat (by omega)
  unfold partsL
  rw [this]
  have e : ((b - a).toNat : Int) = b - a := by omega
  rw [e]
  congr 1
  omega
theorem outer (t2 u3 u4 u5 u6 u7 u8 u9 u10 u11 : Option Sl) (dk : Dk) : ∃ v3 v4 v5 v6 v7 v8 v9 v10 v11 dk', lb2_law ⟨[none, some (.val .deck), t2, u3, u4, u5, u6, u7, u8, u9, u10, u11, none], dk⟩ = some (.nx, ⟨[none, some (.val .deck), t2, v3, v4, v5, v6, v7, v8, v9, v10, v11, none], dk'⟩) := by
  obtain ⟨n, dk2, hn, dk1, x, p1, p2⟩ := first_n dk
  obtain ⟨a, b, A, dk3, hA, e2⟩ := first_arc n hn t2 u4 u5 u6 u7 u8 u9 u10 u11 dk2
  have q1 := hA.a1
  have q2 := hA.ab
  have q3 := hA.bn
  have q4 := hA.nn
  have k1 := within_spec a b A dk3 (by omega) q2 (by omega)
  have k2 := arcs_within_spec hA dk3
  have k3 := okS_told hA
  have k4 := okS_arc hA
  have k5 := told_len hA
  obtain ⟨v8, v9, v10, v11, dk4, k6⟩ := inner_all hA t2 (some (.val (.d (.str (arcD a b A).shown)))) (some (.val (.d (.tuple (sortD (partsL a b A)))))) u8 u9 u10 u11 dk3
  refine ⟨some (.val (.d (.int n))), some (.val (.d (arcD a b A))), some (.val (.d (.str (arcD a b A).shown))), some (.val (.d (.tuple (sortD (partsL a b A))))), some (.val (.d (.tuple (sortD (partsL a b A))))), v8, v9, v10, v11, dk4, ?_⟩
  unfold lb2_law
  rw [seq_nx (s1 := ⟨[none, some (.val .deck), t2, some (.val (.d (.int n))), u4, u5, u6, u7, u8, u9, u10, u11, none], dk2⟩) (by simp [p1, p2]), seq_nx e2]
  have b1 : -18446744073709551616 < b - a := by omega
  have b2 : b - a < 18446744073709551616 := by omega
  simp only [arcD] at k1 k2 k4 k6
  simp [k1, k2, k3, k4, k5, k6, arcD, okD_str, eqv_str, okD_int, eqv_int, b1, b2]
theorem law_true (dk : Dk) : ∃ dk', ∃ ρ', b_law ⟨none :: some (.val .deck) :: List.replicate (N_law.length - 2) none, dk⟩ = some (.rt (.d (.bool true)), ⟨ρ', dk'⟩) := by
  obtain ⟨st', h5, v2, v3, v4, v5, v6, v7, v8, v9, v10, v11, dk', rfl⟩ := sFor_up (it := (iRange1 (aCons (cV (.d (.int 2))) aNil))) (g := gSet 2) (body := lb2_law) (st := ⟨none :: some (.val .deck) :: List.replicate (N_law.length - 2) none, dk⟩) (st1 := ⟨none :: some (.val .deck) :: List.replicate (N_law.length - 2) none, dk⟩) (lo := 0) (n := 2)
    (by have k1 : okR 2 = true := by decide
        simp [k1])
    (fun k st => ∃ v2 v3 v4 v5 v6 v7 v8 v9 v10 v11 dk', st = ⟨[none, some (.val .deck), v2, v3, v4, v5, v6, v7, v8, v9, v10, v11, none], dk'⟩) ⟨_, _, _, _, _, _, _, _, _, _, _, rfl⟩
    (fun i hi st hI => by
      obtain ⟨v2, v3, v4, v5, v6, v7, v8, v9, v10, v11, dk', rfl⟩ := hI
      obtain ⟨w3, w4, w5, w6, w7, w8, w9, w10, w11, dk2, h⟩ := outer (some (.val (.d (.int (0 + i))))) v3 v4 v5 v6 v7 v8 v9 v10 v11 dk'
      exact ⟨_, h, _, _, _, _, _, _, _, _, _, _, _, rfl⟩)
  refine ⟨dk', [none, some (.val .deck), v2, v3, v4, v5, v6, v7, v8, v9, v10, v11, none], ?_⟩
  unfold b_law
  exact (seq_nx h5).trans rfl
end Lw
open PySem PySem.W PyProof.Rows
set_option maxHeartbeats 0 in
theorem PySem.Challenge.cw_keptarcs_k08_arcs_within_arcs_holds : PySem.Challenge.rw_keptarcs_k08_arcs_within_arcs.Holds := by
  w_on; o_law; k_head; (case hw => w_witness2)
  k_fill
  refine DL.walkG (l := PySem.Challenge.rw_keptarcs_k08_arcs_within_arcs) (n := 63) (k := 7) (x := "script") (CX := fun _ => L2.CX0) (sp := fun w => DL.spLaw _) rfl (by decide) rfl ⟨rfl, by decide, by decide⟩ (fun w h Y => PySem.W.kIn_of Y) ?F (fun _ _ a ns hl _ hS => ⟨a, ns, rfl, hS, hl, fun _ => rfl⟩) (fun _ _ _ _ _ h => h)
  case F =>
    intro w mg fa h KX G hmg
    refine' Lw.all_mk Lw.law_true KX G hmg ?a__law_deck ?l__law_deck ?c__law_deck ?k__law_deck ?a__law_draw ?l__law_draw ?c__law_draw ?k__law_draw ?a__law_pick ?l__law_pick ?c__law_pick ?k__law_pick ?a__law_arc ?l__law_arc ?c__law_arc ?k__law_arc ?a__law_within ?l__law_within ?c__law_within ?k__law_within ?a_is_integer ?l_is_integer ?c_is_integer ?k_is_integer ?a_is_between ?l_is_between ?c_is_between ?k_is_between ?a_is_arc_value ?l_is_arc_value ?c_is_arc_value ?k_is_arc_value ?a_need_arc ?l_need_arc ?c_need_arc ?k_need_arc ?a_part_of ?l_part_of ?c_part_of ?k_part_of ?a_within ?l_within ?c_within ?k_within ?a_arcs_within ?l_arcs_within ?c_arcs_within ?k_arcs_within ?a__law_near ?l__law_near ?c__law_near ?k__law_near ?a__law_lies ?l__law_lies ?c__law_lies ?k__law_lies ?a_need_arcs ?l_need_arcs ?c_need_arcs ?k_need_arcs ?a_is_within ?l_is_within ?c_is_within ?k_is_within ?a_lies_within ?l_lies_within ?c_lies_within ?k_lies_within ?a_law ?l_law ?c_law ?k_law ?z_all ?z_bool ?z_int ?z_isinstance ?z_len ?z_list ?z_max ?z_range ?z_repr ?z_sorted ?z_tuple ?z_zip
    (case a__law_deck => k_is); (case l__law_deck => k_is); (case c__law_deck => k_is); (case k__law_deck => k_is); (case a__law_draw => k_is); (case l__law_draw => k_is); (case c__law_draw => k_is); (case k__law_draw => k_is); (case a__law_pick => k_is); (case l__law_pick => k_is); (case c__law_pick => k_is); (case k__law_pick => k_is); (case a__law_arc => k_is); (case l__law_arc => k_is); (case c__law_arc => k_is); (case k__law_arc => k_is); (case a__law_within => k_is); (case l__law_within => k_is); (case c__law_within => k_is); (case k__law_within => k_is); (case a_is_integer => k_is); (case l_is_integer => k_is); (case c_is_integer => k_is); (case k_is_integer => k_is); (case a_is_between => k_is); (case l_is_between => k_is); (case c_is_between => k_is); (case k_is_between => k_is); (case a_is_arc_value => k_is); (case l_is_arc_value => k_is); (case c_is_arc_value => k_is); (case k_is_arc_value => k_is); (case a_need_arc => k_is); (case l_need_arc => k_is); (case c_need_arc => k_is); (case k_need_arc => k_is); (case a_part_of => k_is); (case l_part_of => k_is); (case c_part_of => k_is); (case k_part_of => k_is); (case a_within => k_is); (case l_within => k_is); (case c_within => k_is); (case k_within => k_is); (case a_arcs_within => k_is); (case l_arcs_within => k_is); (case c_arcs_within => k_is); (case k_arcs_within => k_is); (case a__law_near => k_is); (case l__law_near => k_is); (case c__law_near => k_is); (case k__law_near => k_is); (case a__law_lies => k_is); (case l__law_lies => k_is); (case c__law_lies => k_is); (case k__law_lies => k_is); (case a_need_arcs => k_is); (case l_need_arcs => k_is); (case c_need_arcs => k_is); (case k_need_arcs => k_is); (case a_is_within => k_is); (case l_is_within => k_is); (case c_is_within => k_is); (case k_is_within => k_is); (case a_lies_within => k_is); (case l_lies_within => k_is); (case c_lies_within => k_is); (case k_lies_within => k_is); (case a_law => k_is); (case l_law => k_is); (case c_law => k_is); (case k_law => k_is); (case z_all => k_is); (case z_bool => k_is); (case z_int => k_is); (case z_isinstance => k_is); (case z_len => k_is); (case z_list => k_is); (case z_max => k_is); (case z_range => k_is); (case z_repr => k_is); (case z_sorted => k_is); (case z_tuple => k_is); (case z_zip => k_is)
