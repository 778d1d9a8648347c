import PyProof.Rows.All
import Wide.All
import OpenK.AllK
import Wide.FinOn
import HandS.ForMost
import HandS.Exc
import HandS.TryOnly
import HandS.TryMany
import HandS.ExcOwn
import HandS.WordsExc
import HandS.CallSlots
import HandS.TupAny
import HandS.Wide
import HandS.Gcd
import HandS.IsInst
import KE.SortData
import HandS.Zip
import HandS.Rev
import HandS.RevRange
import HandS.Defaults
import HandS.Head0
import HandS.Head1
import HandS.Head2
import HandS.HeadEnd
import HandS.HeadHook1
import HandS.HeadHook2
import HandS.HeadHook3
import HandS.HeadHook4
import KE.Datum
import HandS.ExcIs
import HandS.Conv
import HandS.Style
import KE.DataMinMax
import PyProof.Rows.RowBridgeK
import HandS.Head3
import PySem.Challenge.RW_ropesbear_k68_whole_most_years_on_saddle
section
set_option Elab.async false
set_option linter.all false
set_option maxRecDepth 100000
set_option maxHeartbeats 4000000
/-! VA: data in the place of the heap. What a piece of text yields is told over PyData; lists that a body changes are its own. -/
namespace PV
abbrev Sg := L2.St
open PySem PySem.Spec PyProof.Rows L2

/-! ### results -/
inductive R (ε α : Type) where
  | ok (a : α)
  | exc (c : Str) (e : ε)
  | bad
def R.bind {ε α β : Type} (x : R ε α) (f : α → R ε β) : R ε β := match x with
  | .ok a => f a
  | .exc c e => .exc c e
  | .bad => .bad
def R.post {ε α : Type} (x : R ε α) (Q : α → Prop) (E : Str → ε → Prop) : Prop := match x with
  | .ok a => Q a
  | .exc c e => E c e
  | .bad => False
theorem R.post_mono {ε α : Type} {x : R ε α} {Q Q' : α → Prop} {E E' : Str → ε → Prop} (h : x.post Q E) (hq : ∀ a, Q a → Q' a) (he : ∀ c e, E c e → E' c e) : x.post Q' E' := by
  cases x with
  | ok a => exact hq a h
  | exc c e => exact he c e h
  | bad => exact h
theorem R.post_bind {ε α β : Type} {x : R ε α} {f : α → R ε β} {Q : β → Prop} {E : Str → ε → Prop} (h : (x.bind f).post Q E) : x.post (fun a => (f a).post Q E) E := by
  cases x with
  | ok a => exact h
  | exc c e => exact h
  | bad => exact h
abbrev RE (α : Type) := R Unit α
def ofO {α : Type} : Option α → RE α
  | some a => .ok a
  | none => .bad
/-- a guard -/
def grd {ε α : Type} (p : Prop) [Decidable p] (x : R ε α) : R ε α := if p then x else .bad
theorem grd_pos {ε α : Type} {p : Prop} [Decidable p] {x : R ε α} (h : p) : grd p x = x := if_pos h

/-! ### the heap and its still part -/
structure Ext (F H F' H' : Hp) : Prop where
  hh : Same H H'
  ff : Same F F'
  fh : Same F' H'
  nw : ∀ a o, F' a = some o → F a = some o ∨ H a = none
theorem Ext.refl {F H : Hp} (h : Same F H) : Ext F H F H := ⟨Same.refl _, Same.refl _, h, fun _ _ e => .inl e⟩
theorem Ext.trans {F H F1 H1 F2 H2 : Hp} (a : Ext F H F1 H1) (b : Ext F1 H1 F2 H2) : Ext F H F2 H2 :=
  ⟨a.hh.trans b.hh, a.ff.trans b.ff, b.fh, fun x o e => by
    rcases b.nw x o e with q | q
    · exact a.nw x o q
    · exact .inr (a.hh.free q)⟩
theorem same_upd {H : Hp} {p : Addr} {o : HO} (n : H p = none) : Same H (upd H p o) := fun b u e => by
  rw [upd_ne (ne_of_none e n)]; exact e
/-- a new object that is still from now on -/
theorem Ext.new {F H : Hp} {p : Addr} {o : HO} (h : Same F H) (n : H p = none) : Ext F H (upd F p o) (upd H p o) := by
  refine ⟨same_upd n, same_upd (h.free n), fun b u e => ?_, fun b u e => ?_⟩
  · by_cases hb : b = p
    · subst hb; rw [upd_same] at e ⊢; exact e
    · rw [upd_ne hb] at e ⊢; exact h b u e
  · by_cases hb : b = p
    · subst hb; exact .inr n
    · rw [upd_ne hb] at e; exact .inl e
/-- a new object beside the still part -/
theorem Ext.beside {F H : Hp} {p : Addr} {o : HO} (h : Same F H) (n : H p = none) : Ext F H F (upd H p o) :=
  ⟨same_upd n, Same.refl _, h.trans (same_upd n), fun _ _ e => .inl e⟩
/-- the still part grows by an object that stands beside it, outside of what stood ahead -/
theorem Ext.still {F H F1 H1 : Hp} {p : Addr} {o : HO} (e : Ext F H F1 H1) (h1 : H1 p = some o) (n : H p = none) (nf : F1 p = none) : Ext F H (upd F1 p o) H1 := by
  refine ⟨e.hh, e.ff.trans (same_upd nf), fun b u q => ?_, fun b u q => ?_⟩
  · by_cases hb : b = p
    · subst hb; rw [upd_same] at q; rw [h1]; exact q
    · rw [upd_ne hb] at q; exact e.fh b u q
  · by_cases hb : b = p
    · subst hb; exact .inr n
    · rw [upd_ne hb] at q; exact e.nw b u q

/-! ### a value is a datum -/
section
variable (K : PySem.W.Frag)
mutual
inductive Vd (F : Hp) : V → PyData → Prop
  | non : Vd F .non .none
  | bl (b : Bool) : Vd F (.bl b) (.bool b)
  | int (i : Int) : Vd F (.int i) (.int i)
  | str (x : Str) : PyData.strOk x = true → Vd F (.str x) (.str x)
  | lst {a : Addr} {xs : List V} {ds : List PyData} : SqL K F a xs → xs.length ≤ sizeLine → VdAll F xs ds → Vd F (.ref a) (.list ds)
  | tup {a : Addr} {xs : List V} {ds : List PyData} : SqT K F a xs → xs.length ≤ sizeLine → VdAll F xs ds → Vd F (.ref a) (.tuple ds)
inductive VdAll (F : Hp) : List V → List PyData → Prop
  | nil : VdAll F [] []
  | cons {v : V} {vs : List V} {d : PyData} {ds : List PyData} : Vd F v d → VdAll F vs ds → VdAll F (v :: vs) (d :: ds)
end
end
theorem same_rd {H H' : Hp} {a : Addr} {u : HO} (e : Same H H') (h : Rd H a u) : Rd H' a u := by
  rcases h with h | ⟨o, h⟩
  · exact .inl (e _ _ h)
  · exact .inr ⟨o, e _ _ h⟩
theorem same_sqT {K : PySem.W.Frag} {H H' : Hp} {a : Addr} {xs : List V} (e : Same H H') (h : SqT K H a xs) : SqT K H' a xs := by
  rcases h with h | h
  · exact .inl (same_rd e h)
  · exact .inr h
section
variable {K : PySem.W.Frag} {F F' : Hp}
mutual
theorem Vd.mono (e : Same F F') : ∀ (d : PyData) (v : V), Vd K F v d → Vd K F' v d
  | .none, _, h => by cases h; exact .non
  | .bool b, _, h => by cases h; exact .bl b
  | .int i, _, h => by cases h; exact .int i
  | .str x, _, h => by cases h with | str _ hx => exact .str x hx
  | .list ds, _, h => by cases h with | lst hs hz ha => exact .lst (e.seq hs) hz (VdAll.mono e ds _ ha)
  | .tuple ds, _, h => by cases h with | tup hs hz ha => exact .tup (same_sqT e hs) hz (VdAll.mono e ds _ ha)
  | .dict _, _, h => by cases h
theorem VdAll.mono (e : Same F F') : ∀ (ds : List PyData) (vs : List V), VdAll K F vs ds → VdAll K F' vs ds
  | [], _, h => by cases h; exact .nil
  | d :: ds, _, h => by cases h with | cons h1 h2 => exact .cons (Vd.mono e d _ h1) (VdAll.mono e ds _ h2)
end
mutual
theorem Vd.dp : ∀ (d : PyData) (v : V), Vd K F v d → Dp K F v d ∧ d.canLay0 = true
  | .none, _, h => by cases h; exact ⟨.non, rfl⟩
  | .bool b, _, h => by cases h; exact ⟨.bl b, rfl⟩
  | .int i, _, h => by cases h; exact ⟨.int i, rfl⟩
  | .str x, _, h => by cases h with | str _ hx => exact ⟨.str x, by simpa only [PyData.canLay0] using hx⟩
  | .list ds, _, h => by cases h with | lst hs hz ha => exact ⟨.lst hs (VdAll.dp ds _ ha).1, by simpa only [PyData.canLay0] using (VdAll.dp ds _ ha).2⟩
  | .tuple ds, _, h => by cases h with | tup hs hz ha => exact ⟨.tup hs (VdAll.dp ds _ ha).1, by simpa only [PyData.canLay0] using (VdAll.dp ds _ ha).2⟩
  | .dict _, _, h => by cases h
theorem VdAll.dp : ∀ (ds : List PyData) (vs : List V), VdAll K F vs ds → DpAll K F vs ds ∧ PyData.canLayAll0 ds = true
  | [], _, h => by cases h; exact ⟨.nil, rfl⟩
  | d :: ds, _, h => by cases h with | cons h1 h2 => exact ⟨.cons (Vd.dp d _ h1).1 (VdAll.dp ds _ h2).1, by simp only [PyData.canLayAll0, (Vd.dp d _ h1).2, (VdAll.dp ds _ h2).2, Bool.and_self]⟩
end
theorem VdAll.length : ∀ {vs : List V} {ds : List PyData}, VdAll K F vs ds → vs.length = ds.length
  | _, _, .nil => rfl
  | _, _, .cons _ t => by rw [List.length_cons, List.length_cons, VdAll.length t]
theorem VdAll.get : ∀ {vs : List V} {ds : List PyData} {i : Nat} {d : PyData}, VdAll K F vs ds → ds[i]? = some d → ∃ v, vs[i]? = some v ∧ Vd K F v d
  | _, _, _, _, .nil, e => by simp at e
  | _, _, 0, _, .cons h _, e => by simp at e; subst e; exact ⟨_, rfl, h⟩
  | _, _, i + 1, d, .cons _ t, e => by
    obtain ⟨v, h1, h2⟩ := VdAll.get (i := i) (d := d) t (by simpa using e)
    exact ⟨v, by simpa using h1, h2⟩
theorem VdAll.getV : ∀ {vs : List V} {ds : List PyData} {i : Nat} {v : V}, VdAll K F vs ds → vs[i]? = some v → ∃ d, ds[i]? = some d ∧ Vd K F v d
  | _, _, _, _, .nil, e => by simp at e
  | _, _, 0, _, .cons h _, e => by simp at e; subst e; exact ⟨_, rfl, h⟩
  | _, _, i + 1, v, .cons _ t, e => by
    obtain ⟨d, h1, h2⟩ := VdAll.getV (i := i) (v := v) t (by simpa using e)
    exact ⟨d, by simpa using h1, h2⟩
theorem VdAll.append : ∀ {vs ws : List V} {ds es : List PyData}, VdAll K F vs ds → VdAll K F ws es → VdAll K F (vs ++ ws) (ds ++ es)
  | _, _, _, _, .nil, s => s
  | _, _, _, _, .cons h t, s => .cons h (VdAll.append t s)
theorem VdAll.set {v : V} {d : PyData} (h : Vd K F v d) : ∀ {vs : List V} {ds : List PyData} (i : Nat), VdAll K F vs ds → VdAll K F (vs.set i v) (ds.set i d)
  | _, _, _, .nil => .nil
  | _, _, 0, .cons _ t => .cons h t
  | _, _, i + 1, .cons q t => .cons q (VdAll.set h i t)
theorem VdAll.take : ∀ {vs : List V} {ds : List PyData} (n : Nat), VdAll K F vs ds → VdAll K F (vs.take n) (ds.take n)
  | _, _, 0, _ => .nil
  | _, _, _ + 1, .nil => .nil
  | _, _, n + 1, .cons h t => .cons h (VdAll.take n t)
theorem VdAll.drop : ∀ {vs : List V} {ds : List PyData} (n : Nat), VdAll K F vs ds → VdAll K F (vs.drop n) (ds.drop n)
  | _, _, 0, h => h
  | _, _, _ + 1, .nil => .nil
  | _, _, n + 1, .cons _ t => VdAll.drop n t
theorem VdAll.reverse {vs : List V} {ds : List PyData} (h : VdAll K F vs ds) : VdAll K F vs.reverse ds.reverse := by
  induction ds generalizing vs with
  | nil => cases h; exact .nil
  | cons d ds ih =>
    cases h with
    | cons h1 h2 => rw [List.reverse_cons, List.reverse_cons]; exact (ih h2).append (.cons h1 .nil)
theorem VdAll.erase : ∀ {vs : List V} {ds : List PyData} (i : Nat), VdAll K F vs ds → VdAll K F (vs.eraseIdx i) (ds.eraseIdx i)
  | _, _, _, .nil => .nil
  | _, _, 0, .cons _ t => t
  | _, _, i + 1, .cons h t => .cons h (VdAll.erase i t)
theorem VdAll.rep {vs : List V} {ds : List PyData} (h : VdAll K F vs ds) : ∀ k : Nat, VdAll K F (List.replicate k vs).flatten (List.replicate k ds).flatten
  | 0 => .nil
  | k + 1 => by rw [List.replicate_succ, List.replicate_succ, List.flatten_cons, List.flatten_cons]; exact h.append (VdAll.rep h k)
theorem VdAll.mem {d : PyData} : ∀ {vs : List V} {ds : List PyData}, VdAll K F vs ds → d ∈ ds → ∃ v, v ∈ vs ∧ Vd K F v d
  | _, _, .cons h t, m => by
    rcases List.mem_cons.mp m with rfl | m
    · exact ⟨_, List.mem_cons_self, h⟩
    · obtain ⟨v, h1, h2⟩ := VdAll.mem t m
      exact ⟨v, List.mem_cons_of_mem _ h1, h2⟩
end

/-! ### the frame's names -/
inductive Cel where
  | val (d : PyData)
  /-- a list that the body made and changes -/
  | own (ds : List PyData)
  /-- the error that a suite holds, by its class's name -/
  | exn (c : Str)
abbrev Evn := List (Option Cel)
/-- of a body: what stood ahead of it, its still part, what is wanted of an exception -/
structure Pm where
  B : Hp
  F0 : Hp
  W : WX
  /-- the error that is held -/
  E : Option (Addr × Str)
def CellOk (K : PySem.W.Frag) (P : Pm) (F H : Hp) (v : V) : Cel → Prop
  | .val d => Vd K F v d
  | .exn c => ∃ a, P.E = some (a, c) ∧ v = .ref a
  | .own ds => ∃ a xs, v = .ref a ∧ P.B a = none ∧ F a = none ∧ H a = some (.lst xs) ∧ xs.length ≤ sizeLine ∧ VdAll K F xs ds
structure Rep (K : PySem.W.Frag) (P : Pm) (ρ : Evn) (F : Hp) (σ : Sg) (H : Hp) : Prop where
  len : ρ.length = σ.length
  ext : Ext P.F0 P.B F H
  slot : ∀ (i : Nat) (c : Cel), ρ[i]? = some (some c) → ∃ v, σ[i]? = some (some v) ∧ CellOk K P F H v c
  sep : ∀ (i j : Nat) (a : Addr) (ds es : List PyData), i ≠ j → ρ[i]? = some (some (.own ds)) → ρ[j]? = some (some (.own es)) → σ[i]? = some (some (.ref a)) → σ[j]? ≠ some (some (.ref a))
section
variable {K : PySem.W.Frag} {P : Pm} {ρ : Evn} {F F' H H' : Hp} {σ : Sg}
theorem Rep.fh (r : Rep K P ρ F σ H) : Same F H := r.ext.fh
theorem CellOk.step {v : V} {c : Cel} (h : CellOk K P F H v c) (e : Ext F H F' H') : CellOk K P F' H' v c := by
  cases c with
  | exn c => exact h
  | val d => exact Vd.mono e.ff d v h
  | own ds =>
    obtain ⟨a, xs, ev, hb, hf, hh, hz, hd⟩ := h
    refine ⟨a, xs, ev, hb, ?_, e.hh a _ hh, hz, VdAll.mono e.ff ds xs hd⟩
    cases q : F' a with
    | none => rfl
    | some o =>
      rcases e.nw a o q with z | z
      · rw [hf] at z; cases z
      · rw [hh] at z; cases z
theorem Rep.step (r : Rep K P ρ F σ H) (e : Ext F H F' H') : Rep K P ρ F' σ H' :=
  ⟨r.len, r.ext.trans e, fun i c q => let ⟨v, h1, h2⟩ := r.slot i c q; ⟨v, h1, h2.step e⟩, r.sep⟩
/-- a datum is stored -/
theorem Rep.setVal {i : Nat} {v : V} {d : PyData} (r : Rep K P ρ F σ H) (h : Vd K F v d) : Rep K P (ρ.set i (some (.val d))) F (σ.set i (some v)) H := by
  refine ⟨by rw [List.length_set, List.length_set]; exact r.len, r.ext, fun j c q => ?_, fun j k a ds es hne q1 q2 q3 => ?_⟩
  · by_cases hj : i = j
    · subst hj
      have hi : i < ρ.length := by
        have := (List.getElem?_eq_some_iff.mp q).1
        rwa [List.length_set] at this
      rw [List.getElem?_set_self hi] at q
      cases q
      exact ⟨v, by rw [List.getElem?_set_self (by rw [← r.len]; exact hi)], h⟩
    · rw [List.getElem?_set_ne hj] at q
      obtain ⟨u, h1, h2⟩ := r.slot j c q
      exact ⟨u, by rw [List.getElem?_set_ne hj]; exact h1, h2⟩
  · have nj : ∀ {j : Nat} {ds : List PyData}, (ρ.set i (some (.val d)))[j]? = some (some (.own ds)) → i ≠ j ∧ ρ[j]? = some (some (.own ds)) := fun {j ds} q => by
      by_cases hj : i = j
      · subst hj
        have hi : i < ρ.length := by
          have := (List.getElem?_eq_some_iff.mp q).1
          rwa [List.length_set] at this
        rw [List.getElem?_set_self hi] at q
        cases q
      · rw [List.getElem?_set_ne hj] at q
        exact ⟨hj, q⟩
    obtain ⟨n1, p1⟩ := nj q1
    obtain ⟨n2, p2⟩ := nj q2
    rw [List.getElem?_set_ne n1] at q3
    rw [List.getElem?_set_ne n2]
    exact r.sep j k a ds es hne p1 p2 q3
/-- a list that stands beside the still part becomes a name's own -/
theorem Rep.setOwn {i : Nat} {a : Addr} {xs : List V} {ds : List PyData} (r : Rep K P ρ F σ H) (hb : P.B a = none) (hf : F a = none) (hh : H a = some (.lst xs)) (hz : xs.length ≤ sizeLine) (h : VdAll K F xs ds)
    (fresh : ∀ (j : Nat) (es : List PyData), j ≠ i → ρ[j]? = some (some (.own es)) → σ[j]? ≠ some (some (.ref a))) : Rep K P (ρ.set i (some (.own ds))) F (σ.set i (some (.ref a))) H := by
  refine ⟨by rw [List.length_set, List.length_set]; exact r.len, r.ext, fun j c q => ?_, fun j k b es es' hne q1 q2 q3 => ?_⟩
  · by_cases hj : i = j
    · subst hj
      have hi : i < ρ.length := by
        have := (List.getElem?_eq_some_iff.mp q).1
        rwa [List.length_set] at this
      rw [List.getElem?_set_self hi] at q
      cases q
      exact ⟨_, by rw [List.getElem?_set_self (by rw [← r.len]; exact hi)], a, xs, rfl, hb, hf, hh, hz, h⟩
    · rw [List.getElem?_set_ne hj] at q
      obtain ⟨u, h1, h2⟩ := r.slot j c q
      exact ⟨u, by rw [List.getElem?_set_ne hj]; exact h1, h2⟩
  · by_cases h1 : i = j
    · subst h1
      have hi : i < σ.length := by
        have := (List.getElem?_eq_some_iff.mp q3).1
        rwa [List.length_set] at this
      rw [List.getElem?_set_self hi] at q3
      have e : a = b := by
        have := Option.some.inj (Option.some.inj q3)
        exact V.ref.inj this
      subst e
      rw [List.getElem?_set_ne hne] at q2 ⊢
      exact fresh k es' (Ne.symm hne) q2
    · rw [List.getElem?_set_ne h1] at q1 q3
      by_cases h2 : i = k
      · subst h2
        intro q4
        have hi : i < σ.length := by
          have := (List.getElem?_eq_some_iff.mp q4).1
          rwa [List.length_set] at this
        rw [List.getElem?_set_self hi] at q4
        have e : a = b := V.ref.inj (Option.some.inj (Option.some.inj q4))
        subst e
        exact fresh j es (Ne.symm h1) q1 q3
      · rw [List.getElem?_set_ne h2] at q2 ⊢
        exact r.sep j k b es es' hne q1 q2 q3
/-- forgetting a name -/
theorem Rep.setNone {i : Nat} (r : Rep K P ρ F σ H) : Rep K P (ρ.set i none) F (σ.set i none) H := by
  have nj : ∀ {j : Nat} {c : Cel}, (ρ.set i none)[j]? = some (some c) → i ≠ j ∧ ρ[j]? = some (some c) := fun {j c} q => by
    by_cases hj : i = j
    · subst hj
      have hi : i < ρ.length := by
        have := (List.getElem?_eq_some_iff.mp q).1
        rwa [List.length_set] at this
      rw [List.getElem?_set_self hi] at q
      cases q
    · rw [List.getElem?_set_ne hj] at q
      exact ⟨hj, q⟩
  refine ⟨by rw [List.length_set, List.length_set]; exact r.len, r.ext, fun j c q => ?_, fun j k a ds es hne q1 q2 q3 => ?_⟩
  · obtain ⟨n, p⟩ := nj q
    obtain ⟨u, h1, h2⟩ := r.slot j c p
    exact ⟨u, by rw [List.getElem?_set_ne n]; exact h1, h2⟩
  · obtain ⟨n1, p1⟩ := nj q1
    obtain ⟨n2, p2⟩ := nj q2
    rw [List.getElem?_set_ne n1] at q3
    rw [List.getElem?_set_ne n2]
    exact r.sep j k a ds es hne p1 p2 q3
/-- a name's own list becomes still -/
def freeze (i : Nat) (ρ : Evn) : Evn := match ρ[i]? with
  | some (some (.own ds)) => ρ.set i (some (.val (.list ds)))
  | _ => ρ
theorem Rep.freeze {i : Nat} (r : Rep K P ρ F σ H) : ∃ F', Same F F' ∧ Rep K P (freeze i ρ) F' σ H := by
  unfold PV.freeze
  cases q : ρ[i]? with
  | none => exact ⟨F, Same.refl _, r⟩
  | some o =>
    cases o with
    | none => exact ⟨F, Same.refl _, r⟩
    | some c =>
      cases c with
      | val d => exact ⟨F, Same.refl _, r⟩
      | exn c => exact ⟨F, Same.refl _, r⟩
      | own ds =>
        obtain ⟨v, hσ, a, xs, ev, hb, hf, hh, hz, hd⟩ := r.slot i _ q
        subst ev
        have hi : i < ρ.length := (List.getElem?_eq_some_iff.mp q).1
        have ff : Same F (upd F a (.lst xs)) := same_upd hf
        have hset : σ.set i (some (.ref a)) = σ := by
          apply List.ext_getElem?
          intro j
          by_cases hj : i = j
          · subst hj; rw [List.getElem?_set_self (by rw [← r.len]; exact hi)]; exact hσ.symm
          · rw [List.getElem?_set_ne hj]
        have nj : ∀ {j : Nat} {c : Cel}, (ρ.set i (some (.val (.list ds))))[j]? = some (some c) → (i = j ∧ c = .val (.list ds)) ∨ (i ≠ j ∧ ρ[j]? = some (some c)) := fun {j c} q => by
          by_cases hj : i = j
          · subst hj
            rw [List.getElem?_set_self hi] at q
            cases q
            exact .inl ⟨rfl, rfl⟩
          · rw [List.getElem?_set_ne hj] at q
            exact .inr ⟨hj, q⟩
        refine ⟨upd F a (.lst xs), ff, by rw [List.length_set]; exact r.len, ⟨r.ext.hh, r.ext.ff.trans ff, fun b u e => ?_, fun b u e => ?_⟩, fun j c p => ?_, fun j k b es es' hne q1 q2 q3 => ?_⟩
        · by_cases hb' : b = a
          · subst hb'; rw [upd_same] at e; rw [hh]; exact e
          · rw [upd_ne hb'] at e; exact r.fh b u e
        · by_cases hb' : b = a
          · subst hb'; exact .inr hb
          · rw [upd_ne hb'] at e; exact r.ext.nw b u e
        · rcases nj p with ⟨e, ec⟩ | ⟨n, p⟩
          · subst e; subst ec
            exact ⟨_, hσ, .lst (SqL.of upd_same) hz (VdAll.mono ff ds xs hd)⟩
          · obtain ⟨u, h1, h2⟩ := r.slot j c p
            refine ⟨u, h1, ?_⟩
            cases c with
            | val d => exact Vd.mono ff d u h2
            | exn c => exact h2
            | own es =>
              obtain ⟨a', xs', ev, hb', hf', hh', hz', hd'⟩ := h2
              subst ev
              refine ⟨a', xs', rfl, hb', ?_, hh', hz', VdAll.mono ff es xs' hd'⟩
              rw [upd_ne]
              · exact hf'
              · intro e
                subst e
                exact r.sep i j _ ds es n q p hσ h1
        · rcases nj q1 with ⟨_, e⟩ | ⟨n1, p1⟩
          · cases e
          · rcases nj q2 with ⟨_, e⟩ | ⟨n2, p2⟩
            · cases e
            · exact r.sep j k b es es' hne p1 p2 q3
end
end PV
end
section
set_option Elab.async false
set_option linter.all false
set_option maxRecDepth 100000
set_option maxHeartbeats 4000000
namespace PV
open PySem PySem.Spec PyProof.Rows L2

/-! ### expressions -/
/-- a result of an expression is taken -/
def Out (X : Cx) (P : Pm) (σ : Sg) (Q : VK) (F H : Hp) (r : RE PyData) : Prop :=
  r.post (fun d => ∀ v H' F', Ext F H F' H' → Vd X.K F' v d → Q v H') (fun c _ => ∀ C H' F', X.mg c = some (.ref C) → Ext F H F' H' → P.W (.ref C) none σ H')
theorem Out.step {X : Cx} {P : Pm} {σ : Sg} {Q : VK} {F H F1 H1 : Hp} {r : RE PyData} (h : Out X P σ Q F H r) (e : Ext F H F1 H1) : Out X P σ Q F1 H1 r :=
  R.post_mono h (fun d q v H' F' e' hv => q v H' F' (e.trans e') hv) (fun c _ q C H' F' hm e' => q C H' F' hm (e.trans e'))
theorem Out.mono {X : Cx} {P : Pm} {σ : Sg} {Q Q' : VK} {F H : Hp} {r : RE PyData} (h : Out X P σ Q F H r) (m : ∀ v H', Q v H' → Q' v H') : Out X P σ Q' F H r :=
  R.post_mono h (fun d q v H' F' e' hv => m _ _ (q v H' F' e' hv)) (fun c _ q => q)
/-- the reading of an expression by its meaning f -/
def tV (X : Cx) (P : Pm) (f : Evn → RE PyData) : TE := fun σ H Q => ∃ ρ F, Rep X.K P ρ F σ H ∧ Out X P σ Q F H (f ρ)
def VE (X : Cx) (P : Pm) (e : Expr) (f : Evn → RE PyData) : Prop := PE X e (tV X P f)
theorem PE_mono {X : Cx} {e : Expr} {t t' : TE} (h : PE X e t) (m : ∀ σ H Q, t' σ H Q → t σ H Q) : PE X e t' := ⟨fun pins s σ H Q I q => h.run pins s σ H Q I (m σ H Q q)⟩
section
variable {X : Cx} {P : Pm} {σ : Sg} {Q : VK} {F H : Hp} {ρ : Evn}
/-- the first part of a meaning is read -/
theorem Out.first {f : Evn → RE PyData} {k : PyData → RE PyData} {Q' : VK} (hR : Rep X.K P ρ F σ H) (h : Out X P σ Q F H ((f ρ).bind k))
    (hq : ∀ d v F1 H1, Ext F H F1 H1 → Vd X.K F1 v d → Rep X.K P ρ F1 σ H1 → Out X P σ Q F1 H1 (k d) → Q' v H1) : tV X P f σ H Q' := by
  refine ⟨ρ, F, hR, ?_⟩
  exact R.post_mono (R.post_bind h) (fun d q v H' F' e hv => hq d v F' H' e hv (hR.step e) (Out.step q e)) (fun c _ q => q)
end

/-! ### names, constants -/
def mGet (i : Nat) (ρ : Evn) : RE PyData := match ρ[i]? with
  | some (some (.val d)) => .ok d
  | _ => .bad
section
variable {X : Cx} {P : Pm} {pos : Pos}
theorem ve_var (i : Nat) {x : Str} (hN : X.N[i]? = some x := by rfl) (hv : Vis X.env.scope x := by first | exact Or.inl rfl | exact Or.inr (Or.inl rfl) | exact Or.inr (Or.inr rfl)) (hd : (x == ("__debug__" : Str)) = false := by decide)
    (hcd : (x == ("__classdict__" : Str)) = false := by decide) : VE X P (.Name x pos) (mGet i) := by
  refine PE_mono (pe_var (i := i) hN hv hd hcd) fun σ H Q h => ?_
  obtain ⟨ρ, F, hR, h⟩ := h
  unfold mGet at h
  split at h
  · rename_i d e
    obtain ⟨v, h1, h2⟩ := hR.slot i _ e
    exact ⟨v, h1, h v H F (Ext.refl hR.fh) h2⟩
  · exact h.elim
def mC (d : PyData) (_ : Evn) : RE PyData := .ok d
theorem ve_int {i : Int} {j : Nat} : VE X P (.Constant (.int i) j pos) (mC (.int i)) := PE_mono pe_int fun σ H Q h => by
  obtain ⟨ρ, F, hR, h⟩ := h
  exact h _ H F (Ext.refl hR.fh) (.int i)
theorem ve_bl {b : Bool} {j : Nat} : VE X P (.Constant (.bool b) j pos) (mC (.bool b)) := PE_mono pe_bl fun σ H Q h => by
  obtain ⟨ρ, F, hR, h⟩ := h
  exact h _ H F (Ext.refl hR.fh) (.bl b)
theorem ve_non {j : Nat} : VE X P (.Constant .none j pos) (mC .none) := PE_mono pe_non fun σ H Q h => by
  obtain ⟨ρ, F, hR, h⟩ := h
  exact h _ H F (Ext.refl hR.fh) .non
theorem ve_str {x : Str} {j : Nat} (hx : PyData.strOk x = true := by decide +kernel) : VE X P (.Constant (.str x) j pos) (mC (.str x)) := PE_mono pe_str fun σ H Q h => by
  obtain ⟨ρ, F, hR, h⟩ := h
  exact h _ H F (Ext.refl hR.fh) (.str x hx)
end

/-! ### operators by data -/
/-- an operator of two values, by its meaning g -/
def OpV (X : Cx) (f : Value → Value → Sem Value) (g : PyData → PyData → Option PyData) : Prop :=
  ∀ (pins : List (Addr × Obj)) (s : Shared) (σ : Sg) (H : Hp) (x y : V) (v u : Value) (Q : VK), Inv X pins σ H s → RelV x v → RelV y u →
    ∀ (F : Hp) (d e r : PyData), Same F H → Vd X.K F x d → Vd X.K F y e → g d e = some r → (∀ v' H' F', Ext F H F' H' → Vd X.K F' v' r → Q v' H') → wpAny (model X.prog X.w) X.A (f v u) (EP X pins σ Q) X.xe s
def rV (X : Cx) (g : PyData → PyData → Option PyData) : R2 := fun x y H Q => ∃ F d e r, Same F H ∧ Vd X.K F x d ∧ Vd X.K F y e ∧ g d e = some r ∧ ∀ v' H' F', Ext F H F' H' → Vd X.K F' v' r → Q v' H'
theorem OpV.r {X : Cx} {f : Value → Value → Sem Value} {g : PyData → PyData → Option PyData} (h : OpV X f g) : OpR X f (rV X g) :=
  fun pins s σ H x y v u Q I rx ry ⟨F, d, e, r, sf, hx, hy, hg, hq⟩ => h pins s σ H x y v u Q I rx ry F d e r sf hx hy hg hq
def m2 (g : PyData → PyData → Option PyData) (fa fb : Evn → RE PyData) (ρ : Evn) : RE PyData := (fa ρ).bind fun x => (fb ρ).bind fun y => ofO (g x y)
section
variable {X : Cx} {P : Pm} {pos : Pos} {a b c : Expr} {fa fb fc : Evn → RE PyData} {g : PyData → PyData → Option PyData}
theorem Out.ofO {σ : Sg} {Q : VK} {F H : Hp} {o : Option PyData} (h : Out X P σ Q F H (ofO o)) : ∃ r, o = some r ∧ ∀ v' H' F', Ext F H F' H' → Vd X.K F' v' r → Q v' H' := by
  cases o with
  | some r => exact ⟨r, rfl, h⟩
  | none => exact h.elim
theorem rd2 {σ : Sg} {H : Hp} {Q : VK} (h : tV X P (m2 g fa fb) σ H Q) : tOp (rV X g) (tV X P fa) (tV X P fb) σ H Q := by
  obtain ⟨ρ, F, hR, h⟩ := h
  refine Out.first hR h fun d v F1 H1 e1 hv R1 h1 => ?_
  refine Out.first R1 h1 fun d2 v2 F2 H2 e2 hv2 R2 h2 => ?_
  obtain ⟨r, hr, hq⟩ := h2.ofO
  exact ⟨F2, d, d2, r, R2.fh, Vd.mono e2.ff d v hv, hv2, hr, hq⟩
theorem ve_op {op : Operator} (ho : OpV X (binaryOp op) g) (ha : VE X P a fa) (hb : VE X P b fb) : VE X P (.BinOp a op b pos) (m2 g fa fb) := PE_mono (pe_op ho.r ha hb) fun _ _ _ h => rd2 h
theorem ve_cmp {op : CmpOp} (ho : OpV X (compareOp op) g) (ha : VE X P a fa) (hb : VE X P b fb) (hm : behindInMarks op b = false := by first | exact nomark _ | rfl) : VE X P (.Compare a [op] [b] pos) (m2 g fa fb) := PE_mono (pe_cmpR ho.r ha hb hm) fun _ _ _ h => rd2 h
end

/-! the operators' meanings -/
def b2n (b : Bool) : Int := if b then 1 else 0
/-- two factors whose product is laid -/
def mulOk (i j : Int) : Prop := (-(2 ^ 64) < i ∧ i < 2 ^ 64) ∨ (-(2 ^ 64) < j ∧ j < 2 ^ 64) ∨ i.natAbs.log2 + j.natAbs.log2 < 1000000
instance (i j : Int) : Decidable (mulOk i j) := by unfold mulOk; exact inferInstance
def divOk (j : Int) : Prop := j ≠ 0 ∧ j.natAbs.log2 < 9000
instance (j : Int) : Decidable (divOk j) := by unfold divOk; exact inferInstance
def pAdd : PyData → PyData → Option PyData
  | .int i, .int j => some (.int (i + j))
  | .int i, .bool j => some (.int (i + b2i j))
  | .str x, .str y => if x.length + y.length ≤ sizeLine then some (.str (x ++ y)) else none
  | .list xs, .list ys => if xs.length + ys.length ≤ sizeLine then some (.list (xs ++ ys)) else none
  | .tuple xs, .tuple ys => if xs.length + ys.length ≤ sizeLine then some (.tuple (xs ++ ys)) else none
  | _, _ => none
def pSub : PyData → PyData → Option PyData
  | .int i, .int j => some (.int (i - j))
  | _, _ => none
def pMul : PyData → PyData → Option PyData
  | .int i, .int j => if mulOk i j then some (.int (i * j)) else none
  | _, _ => none
def pDiv : PyData → PyData → Option PyData
  | .int i, .int j => if divOk j then some (.int (i.fdiv j)) else none
  | _, _ => none
def pMod : PyData → PyData → Option PyData
  | .int i, .int j => if j ≠ 0 then some (.int (i.fmod j)) else none
  | _, _ => none
def powOk (i j : Int) : Prop := 0 ≤ j ∧ j ≤ 1000000 ∧ i.natAbs < 2 ^ 64
instance (i j : Int) : Decidable (powOk i j) := by unfold powOk; exact inferInstance
def pPow : PyData → PyData → Option PyData
  | .int i, .int j => if powOk i j then some (.int (i ^ j.toNat)) else none
  | _, _ => none
def pShl : PyData → PyData → Option PyData
  | .int i, .int j => if powOk i j then some (.int (i * 2 ^ j.toNat)) else none
  | _, _ => none
def pShr : PyData → PyData → Option PyData
  | .int i, .int j => if 0 ≤ j then some (.int (i / 2 ^ j.toNat)) else none
  | _, _ => none
def pAnd : PyData → PyData → Option PyData
  | .int i, .int j => some (.int (Builtin.bitAnd i j))
  | _, _ => none
def pOr : PyData → PyData → Option PyData
  | .int i, .int j => some (.int (Builtin.bitOr i j))
  | _, _ => none
def pCmp (p : Int → Int → Bool) : PyData → PyData → Option PyData
  | .int i, .int j => some (.bool (p i j))
  | _, _ => none
abbrev pLt := pCmp fun i j => decide (i < j)
abbrev pLe := pCmp fun i j => decide (i ≤ j)
abbrev pGt := pCmp fun i j => decide (j < i)
abbrev pGe := pCmp fun i j => decide (j ≤ i)
/-- data of a depth that a comparison goes down -/
def eqOk (d e : PyData) : Prop := d.depth ≤ 64 ∨ e.depth ≤ 64
instance (d e : PyData) : Decidable (eqOk d e) := by unfold eqOk; exact inferInstance
def pEq (d e : PyData) : Option PyData := if eqOk d e then some (.bool (PyData.eqv d e)) else none
def pNe (d e : PyData) : Option PyData := if eqOk d e then some (.bool (!PyData.eqv d e)) else none
def isNone : PyData → Bool
  | .none => true
  | _ => false
def pIsN (d e : PyData) : Option PyData := if isNone e then some (.bool (isNone d)) else none
def pIsNotN (d e : PyData) : Option PyData := if isNone e then some (.bool (!isNone d)) else none
section
variable {X : Cx}
theorem some_of_if {α : Type} {p : Prop} [Decidable p] {a r : α} (h : (if p then some a else none) = some r) : p ∧ a = r := by
  by_cases hp : p
  · rw [if_pos hp] at h; exact ⟨hp, Option.some.inj h⟩
  · rw [if_neg hp] at h; cases h
/-- a rule on two ints -/
theorem opI2 {f : Value → Value → Sem Value} {C : Int → Int → Prop} {g : Int → Int → V} {k : Int → Int → PyData} {p : PyData → PyData → Option PyData} (ho : OpR X f (rI C g)) (hk : ∀ F i j, Vd X.K F (g i j) (k i j))
    (hp : ∀ d e r, p d e = some r → ∃ i j, d = .int i ∧ e = .int j ∧ C i j ∧ r = k i j) : OpV X f p := by
  intro pins s σ H x y v u Q I rx ry F d e r sf hx hy hg hq
  obtain ⟨i, j, rfl, rfl, hc, rfl⟩ := hp d e r hg
  cases hx
  cases hy
  exact ho pins s σ H _ _ v u Q I rx ry ⟨i, j, rfl, rfl, hc, hq _ _ F (Ext.refl sf) (hk F i j)⟩
theorem rI0_of {f : Value → Value → Sem Value} {g : Int → Int → V} (ho : OpR X f (rI0 g)) : OpR X f (rI (fun _ _ => True) g) :=
  fun pins s σ H x y v u Q I rx ry ⟨i, j, e1, e2, _, q⟩ => ho pins s σ H x y v u Q I rx ry ⟨i, j, e1, e2, q⟩
theorem op_mulA : OpR X (binaryOp .Mult) (rI mulOk fun i j => .int (i * j)) := by
  intro pins s σ H x y v u Q I rx ry ⟨i, j, e1, e2, hc, q⟩
  rcases hc with hc | hc | hc
  · exact op_mul pins s σ H x y v u Q I rx ry ⟨i, j, e1, e2, .inl hc, q⟩
  · exact op_mul pins s σ H x y v u Q I rx ry ⟨i, j, e1, e2, .inr hc, q⟩
  · exact op_mulW pins s σ H x y v u Q I rx ry ⟨i, j, e1, e2, hc, q⟩
theorem op_divA : OpR X (binaryOp .FloorDiv) (rI (fun _ j => divOk j) fun i j => .int (i.fdiv j)) := opI fun _ _ _ _ _ _ _ hc q => floordiv_int hc.1 q (.inl (PyProof.noPylong_of_log2 hc.2))
/-- a new list or tuple, as a result -/
theorem new_lst {F H : Hp} {Q : VK} {xs : List V} {ds : List PyData} (sf : Same F H) (hz : xs.length ≤ sizeLine) (h : VdAll X.K F xs ds) (hq : ∀ v' H' F', Ext F H F' H' → Vd X.K F' v' (.list ds) → Q v' H') : ∀ p, H p = none → Q (.ref p) (upd H p (.lst xs)) :=
  fun p hp => hq _ _ (upd F p (.lst xs)) (Ext.new sf hp) (.lst (SqL.of upd_same) hz (VdAll.mono (same_upd (sf.free hp)) ds xs h))
theorem new_tup {F H : Hp} {Q : VK} {xs : List V} {ds : List PyData} (sf : Same F H) (hz : xs.length ≤ sizeLine) (h : VdAll X.K F xs ds) (hq : ∀ v' H' F', Ext F H F' H' → Vd X.K F' v' (.tuple ds) → Q v' H') : ∀ p, H p = none → Q (.ref p) (upd H p (.tup xs)) :=
  fun p hp => hq _ _ (upd F p (.tup xs)) (Ext.new sf hp) (.tup (SqT.of upd_same) hz (VdAll.mono (same_upd (sf.free hp)) ds xs h))
/-- list + list, whatever the lists are -/
theorem op_catS : OpR X (binaryOp .Add) (fun x y H Q => ∃ l b xs zs, x = .ref l ∧ y = .ref b ∧ SqL X.K H l xs ∧ SqL X.K H b zs ∧ xs.length + zs.length ≤ sizeLine ∧ ∀ p, H p = none → Q (.ref p) (upd H p (.lst (xs ++ zs)))) := by
  intro pins s σ H x y v u Q I rx ry h
  obtain ⟨l, b, xs, zs, rfl, rfl, hH, hB, hz, q⟩ := h
  cases rx
  cases ry
  obtain ⟨its, r, p1, z1⟩ := I.list hH
  obtain ⟨its2, r2, p2, z2⟩ := I.list hB
  obtain ⟨m, F0⟩ := I.fr
  have l1 := r.length
  have l2 := r2.length
  obtain ⟨⟨cls, dd, data, sl⟩, n, ho, hc, hx, hd⟩ := p1
  obtain ⟨⟨cls2, dd2, data2, sl2⟩, n2, ho2, hc2, hx2, hd2⟩ := p2
  simp only at hc hx hd hc2 hx2 hd2
  subst hc hx hd hc2 hx2 hd2
  have e : its.toArray ++ its2.toArray = (its ++ its2).toArray := by simp
  refine concat_meets ⟨_, ho, rfl⟩ ⟨_, ho2, rfl⟩ noFill_list_add seq_list_add PySem.F.slot_list_add PySem.F.entry_list_add (PySem.F.args_list_add_2 _ _) (list_addW l b its.toArray its2.toArray n n2 none none sl sl2 (by simp only [List.size_toArray]; omega)) ⟨ho, ho2, ?_⟩
  rw [e]
  exact ⟨.ref _, _, I.lnew (t' := s.toks) (r.append r2) (by rw [List.length_append]; omega), rfl, q _ I.fresh⟩
theorem opv_add : OpV X (binaryOp .Add) pAdd := by
  intro pins s σ H x y v u Q I rx ry F d e r sf hx hy hg hq
  cases hx with
  | int i =>
    cases hy with
    | int j =>
      cases hg
      exact op_add pins s σ H _ _ v u Q I rx ry ⟨i, j, rfl, rfl, hq _ _ F (Ext.refl sf) (.int _)⟩
    | bl b =>
      cases hg
      exact op_add_ib pins s σ H _ _ v u Q I rx ry ⟨i, b, rfl, rfl, hq _ _ F (Ext.refl sf) (.int _)⟩
    | _ => cases hg
  | str x hx1 =>
    cases hy with
    | str y hy1 =>
      obtain ⟨hp, rfl⟩ := some_of_if hg
      refine op_add_str pins s σ H _ _ v u Q I rx ry ⟨x, y, rfl, rfl, hp, hq _ _ F (Ext.refl sf) (.str _ ?_)⟩
      show ((x.cps ++ y.cps).all _) = true
      have h1 : x.cps.all (fun c => decide (c < 0x110000)) = true := hx1
      have h2 : y.cps.all (fun c => decide (c < 0x110000)) = true := hy1
      rw [Array.all_append, h1, h2]
      rfl
    | _ => cases hg
  | lst h1 z1 a1 =>
    cases hy with
    | lst h2 z2 a2 =>
      obtain ⟨hp, rfl⟩ := some_of_if hg
      have l1 := a1.length
      have l2 := a2.length
      exact op_catS pins s σ H _ _ v u Q I rx ry ⟨_, _, _, _, rfl, rfl, sf.seq h1, sf.seq h2, by omega, new_lst sf (by rw [List.length_append]; omega) (a1.append a2) hq⟩
    | _ => cases hg
  | tup h1 z1 a1 =>
    cases hy with
    | tup h2 z2 a2 =>
      obtain ⟨hp, rfl⟩ := some_of_if hg
      have l1 := a1.length
      have l2 := a2.length
      refine op_catA pins s σ H _ _ v u Q I rx ry ⟨_, _, _, _, rfl, rfl, same_sqT sf h1, same_sqT sf h2, by omega, fun e => ?_, fun _ e => ?_, fun _ _ => new_tup sf (by rw [List.length_append]; omega) (a1.append a2) hq⟩
      · subst e
        cases a1
        exact hq _ _ F (Ext.refl sf) (.tup h2 z2 a2)
      · subst e
        cases a2
        rw [List.append_nil] at hq
        exact hq _ _ F (Ext.refl sf) (.tup h1 z1 a1)
    | _ => cases hg
  | _ => cases hg
theorem opv_sub : OpV X (binaryOp .Sub) pSub := opI2 (rI0_of op_sub) (fun _ _ _ => .int _) fun d e r h => by
  cases d <;> cases e <;> first | exact ⟨_, _, rfl, rfl, trivial, (Option.some.inj h).symm⟩ | cases h
theorem opv_mul : OpV X (binaryOp .Mult) pMul := opI2 op_mulA (fun _ _ _ => .int _) fun d e r h => by
  cases d <;> cases e <;> first | exact ⟨_, _, rfl, rfl, (some_of_if h).1, (some_of_if h).2.symm⟩ | cases h
theorem opv_div : OpV X (binaryOp .FloorDiv) pDiv := opI2 op_divA (fun _ _ _ => .int _) fun d e r h => by
  cases d <;> cases e <;> first | exact ⟨_, _, rfl, rfl, (some_of_if h).1, (some_of_if h).2.symm⟩ | cases h
theorem opv_mod : OpV X (binaryOp .Mod) pMod := opI2 op_modN (fun _ _ _ => .int _) fun d e r h => by
  cases d <;> cases e <;> first | exact ⟨_, _, rfl, rfl, (some_of_if h).1, (some_of_if h).2.symm⟩ | cases h
theorem opv_pow : OpV X (binaryOp .Pow) pPow := opI2 op_pow (fun _ _ _ => .int _) fun d e r h => by
  cases d <;> cases e <;> first | exact ⟨_, _, rfl, rfl, (some_of_if h).1, (some_of_if h).2.symm⟩ | cases h
theorem opv_shl : OpV X (binaryOp .LShift) pShl := opI2 op_shl (fun _ _ _ => .int _) fun d e r h => by
  cases d <;> cases e <;> first | exact ⟨_, _, rfl, rfl, (some_of_if h).1, (some_of_if h).2.symm⟩ | cases h
theorem opv_shr : OpV X (binaryOp .RShift) pShr := opI2 op_shr (fun _ _ _ => .int _) fun d e r h => by
  cases d <;> cases e <;> first | exact ⟨_, _, rfl, rfl, (some_of_if h).1, (some_of_if h).2.symm⟩ | cases h
theorem opv_and : OpV X (binaryOp .BitAnd) pAnd := opI2 (rI0_of op_and) (fun _ _ _ => .int _) fun d e r h => by
  cases d <;> cases e <;> first | exact ⟨_, _, rfl, rfl, trivial, (Option.some.inj h).symm⟩ | cases h
theorem opv_or : OpV X (binaryOp .BitOr) pOr := opI2 (rI0_of op_or) (fun _ _ _ => .int _) fun d e r h => by
  cases d <;> cases e <;> first | exact ⟨_, _, rfl, rfl, trivial, (Option.some.inj h).symm⟩ | cases h
theorem opv_lt : OpV X (compareOp .Lt) pLt := opI2 (rI0_of op_lt) (fun _ _ _ => .bl _) fun d e r h => by
  cases d <;> cases e <;> first | exact ⟨_, _, rfl, rfl, trivial, (Option.some.inj h).symm⟩ | cases h
theorem opv_le : OpV X (compareOp .LtE) pLe := opI2 (rI0_of op_le) (fun _ _ _ => .bl _) fun d e r h => by
  cases d <;> cases e <;> first | exact ⟨_, _, rfl, rfl, trivial, (Option.some.inj h).symm⟩ | cases h
theorem opv_gt : OpV X (compareOp .Gt) pGt := opI2 (rI0_of op_gt) (fun _ _ _ => .bl _) fun d e r h => by
  cases d <;> cases e <;> first | exact ⟨_, _, rfl, rfl, trivial, (Option.some.inj h).symm⟩ | cases h
theorem opv_ge : OpV X (compareOp .GtE) pGe := opI2 (rI0_of op_ge) (fun _ _ _ => .bl _) fun d e r h => by
  cases d <;> cases e <;> first | exact ⟨_, _, rfl, rfl, trivial, (Option.some.inj h).symm⟩ | cases h
/-- room for a comparison -/
theorem opv_eq {k : Nat} (hr : Room k X.A) : OpV X (compareOp .Eq) pEq := by
  intro pins s σ H x y v u Q I rx ry F d e r sf hx hy hg hq
  obtain ⟨hp, rfl⟩ := some_of_if hg
  have hx' := Vd.dp d x (Vd.mono sf d x hx)
  have hy' := Vd.dp e y (Vd.mono sf e y hy)
  obtain ⟨as, r1⟩ := Dp.reads I d x v hx'.1 rx
  obtain ⟨bs, r2⟩ := Dp.reads I e y u hy'.1 ry
  have hu := hr.units
  exact SeqAt.compareEq_reads r1 r2 hx'.2 hy'.2 (by rcases hp with h | h <;> omega) ⟨.bl _, H, I, rfl, hq _ _ F (Ext.refl sf) (.bl _)⟩
theorem opv_ne {k : Nat} (hr : Room k X.A) : OpV X (compareOp .NotEq) pNe := by
  intro pins s σ H x y v u Q I rx ry F d e r sf hx hy hg hq
  obtain ⟨hp, rfl⟩ := some_of_if hg
  have hx' := Vd.dp d x (Vd.mono sf d x hx)
  have hy' := Vd.dp e y (Vd.mono sf e y hy)
  obtain ⟨as, r1⟩ := Dp.reads I d x v hx'.1 rx
  obtain ⟨bs, r2⟩ := Dp.reads I e y u hy'.1 ry
  have hu := hr.units
  exact SeqAt.compareNe_reads r1 r2 hx'.2 hy'.2 (by rcases hp with h | h <;> omega) ⟨.bl _, H, I, rfl, hq _ _ F (Ext.refl sf) (.bl _)⟩
theorem isNone_of {F : Hp} {v : V} {d : PyData} (h : Vd X.K F v d) : decide (v = .non) = isNone d := by
  cases h <;> rfl
theorem opv_is : OpV X (compareOp .Is) pIsN := by
  intro pins s σ H x y v u Q I rx ry F d e r sf hx hy hg hq
  obtain ⟨hp, rfl⟩ := some_of_if hg
  have hn : y = .non := by cases hy <;> first | rfl | cases hp
  refine op_isN pins s σ H _ _ v u Q I rx ry ⟨hn, ?_⟩
  rw [isNone_of hx]
  exact hq _ _ F (Ext.refl sf) (.bl _)
theorem opv_isnot : OpV X (compareOp .IsNot) pIsNotN := by
  intro pins s σ H x y v u Q I rx ry F d e r sf hx hy hg hq
  obtain ⟨hp, rfl⟩ := some_of_if hg
  have hn : y = .non := by cases hy <;> first | rfl | cases hp
  refine op_notN pins s σ H _ _ v u Q I rx ry ⟨hn, ?_⟩
  rw [isNone_of hx]
  exact hq _ _ F (Ext.refl sf) (.bl _)
end
end PV
end
section
set_option Elab.async false
set_option linter.all false
set_option maxRecDepth 100000
set_option maxHeartbeats 4000000
namespace PV
open PySem PySem.Spec PyProof.Rows L2

/-! ### tests -/
def OutB (X : Cx) (P : Pm) (σ : Sg) (Q : Bool → Hp → Prop) (F H : Hp) (r : RE Bool) : Prop :=
  r.post (fun b => ∀ H' F', Ext F H F' H' → Q b H') (fun c _ => ∀ C H' F', X.mg c = some (.ref C) → Ext F H F' H' → P.W (.ref C) none σ H')
theorem OutB.step {X : Cx} {P : Pm} {σ : Sg} {Q : Bool → Hp → Prop} {F H F1 H1 : Hp} {r : RE Bool} (h : OutB X P σ Q F H r) (e : Ext F H F1 H1) : OutB X P σ Q F1 H1 r :=
  R.post_mono h (fun d q H' F' e' => q H' F' (e.trans e')) (fun c _ q C H' F' hm e' => q C H' F' hm (e.trans e'))
def tTV (X : Cx) (P : Pm) (f : Evn → RE Bool) : TT := fun σ H Q => ∃ ρ F, Rep X.K P ρ F σ H ∧ OutB X P σ Q F H (f ρ)
def VT (X : Cx) (P : Pm) (e : Expr) (f : Evn → RE Bool) : Prop := PT X e (tTV X P f)
def VW (X : Cx) (P : Pm) (e : Expr) (f : Evn → RE Bool) : Prop := PW X e (tTV X P f)
theorem PT_mono {X : Cx} {e : Expr} {t t' : TT} (h : PT X e t) (m : ∀ σ H Q, t' σ H Q → t σ H Q) : PT X e t' := ⟨fun pins s σ H Q I q => h.run pins s σ H Q I (m σ H Q q)⟩
theorem PW_mono {X : Cx} {e : Expr} {t t' : TT} (h : PW X e t) (m : ∀ σ H Q, t' σ H Q → t σ H Q) : PW X e t' := ⟨fun w pins s σ H Q I q => h.run w pins s σ H Q I (m σ H Q q)⟩
/-- a datum's truth -/
def truth : PyData → Option Bool
  | .none => some false
  | .bool b => some b
  | .int i => some (i != 0)
  | .str x => if x.length ≤ sizeLine then some ((x.length : Int) != 0) else none
  | .list xs => some (!xs.isEmpty)
  | .tuple xs => some (!xs.isEmpty)
  | .dict _ => none
def toB : PyData → Option Bool
  | .bool b => some b
  | _ => none
def mT (f : Evn → RE PyData) (ρ : Evn) : RE Bool := (f ρ).bind fun d => ofO (truth d)
def mB (f : Evn → RE PyData) (ρ : Evn) : RE Bool := (f ρ).bind fun d => ofO (toB d)
section
variable {X : Cx} {P : Pm} {pos : Pos} {a b c : Expr} {fa fb fc : Evn → RE PyData} {ga gb gc : Evn → RE Bool} {σ : Sg} {F H : Hp} {ρ : Evn}
theorem Out.firstB {f : Evn → RE PyData} {k : PyData → RE Bool} {Q : Bool → Hp → Prop} {Q' : VK} (hR : Rep X.K P ρ F σ H) (h : OutB X P σ Q F H ((f ρ).bind k))
    (hq : ∀ d v F1 H1, Ext F H F1 H1 → Vd X.K F1 v d → Rep X.K P ρ F1 σ H1 → OutB X P σ Q F1 H1 (k d) → Q' v H1) : tV X P f σ H Q' := by
  refine ⟨ρ, F, hR, ?_⟩
  exact R.post_mono (R.post_bind h) (fun d q v H' F' e hv => hq d v F' H' e hv (hR.step e) (OutB.step q e)) (fun c _ q => q)
theorem OutB.ofO {Q : Bool → Hp → Prop} {o : Option Bool} (h : OutB X P σ Q F H (ofO o)) : ∃ r, o = some r ∧ ∀ H' F', Ext F H F' H' → Q r H' := by
  cases o with
  | some r => exact ⟨r, rfl, h⟩
  | none => exact h.elim
theorem truV_of {F H : Hp} {v : V} {d : PyData} {k : Bool} (sf : Same F H) (h : Vd X.K F v d) (e : truth d = some k) : TruV X.K v H k := by
  cases h with
  | non => cases e; rfl
  | bl b => cases e; rfl
  | int i => cases e; rfl
  | str x hx =>
    obtain ⟨h1, rfl⟩ := some_of_if e
    exact ⟨h1, rfl⟩
  | lst hs hz ha =>
    cases e
    refine .inl ⟨_, sf.seq hs, ?_⟩
    cases ha <;> rfl
  | tup hs hz ha =>
    cases e
    refine .inr (.inl ⟨_, same_sqT sf hs, ?_⟩)
    cases ha <;> rfl
/-- an expression as a test, by its truth -/
theorem vt_truth (h : VE X P a fa) (he : ∀ whole, isTrue a X.env whole = (do let v ← whole; standAt a.pos; holding [v] (truthy v)) := by intro _; rfl) : VT X P a (mT fa) := PT_mono (pt_truth h he) fun σ H Q h => by
  obtain ⟨ρ, F, hR, h⟩ := h
  refine Out.firstB hR h fun d v F1 H1 e1 hv R1 h1 => ?_
  obtain ⟨r, hr, hq⟩ := h1.ofO
  exact ⟨r, truV_of R1.fh hv hr, hq H1 F1 (Ext.refl R1.fh)⟩
theorem rdB {t : TE} {f : Evn → RE PyData} {σ : Sg} {H : Hp} {Q : Bool → Hp → Prop} (m : ∀ Q, tV X P f σ H Q → t σ H Q) (h : tTV X P (mB f) σ H Q) : t σ H fun x H1 => ∃ c, x = .bl c ∧ Q c H1 := by
  obtain ⟨ρ, F, hR, h⟩ := h
  refine m _ (Out.firstB hR h fun d v F1 H1 e1 hv R1 h1 => ?_)
  obtain ⟨r, hr, hq⟩ := h1.ofO
  cases hv with
  | bl b => cases hr; exact ⟨r, rfl, hq H1 F1 (Ext.refl R1.fh)⟩
  | _ => cases hr
/-- a comparison as a test -/
theorem vt_cmp {op : CmpOp} {g : PyData → PyData → Option PyData} (ho : OpV X (compareOp op) g) (ha : VE X P a fa) (hb : VE X P b fb) (hm : behindInMarks op b = false := by first | exact nomark _ | rfl) : VT X P (.Compare a [op] [b] pos) (mB (m2 g fa fb)) :=
  PT_mono (pt_cmpR ho.r ha hb hm) fun σ H Q h => rdB (t := tOp (rV X g) (tV X P fa) (tV X P fb)) (fun Q => rd2) h
/-- and, or, not -/
def mAndB (fa fb : Evn → RE Bool) (ρ : Evn) : RE Bool := (fa ρ).bind fun c => if c then fb ρ else .ok false
def mOrB (fa fb : Evn → RE Bool) (ρ : Evn) : RE Bool := (fa ρ).bind fun c => if c then .ok true else fb ρ
def mNotB (fa : Evn → RE Bool) (ρ : Evn) : RE Bool := (fa ρ).bind fun c => .ok (!c)
theorem OutB.first {f : Evn → RE Bool} {k : Bool → RE Bool} {Q : Bool → Hp → Prop} {Q' : Bool → Hp → Prop} (hR : Rep X.K P ρ F σ H) (h : OutB X P σ Q F H ((f ρ).bind k))
    (hq : ∀ d F1 H1, Ext F H F1 H1 → Rep X.K P ρ F1 σ H1 → OutB X P σ Q F1 H1 (k d) → Q' d H1) : tTV X P f σ H Q' := by
  refine ⟨ρ, F, hR, ?_⟩
  exact R.post_mono (R.post_bind h) (fun d q H' F' e => hq d F' H' e (hR.step e) (OutB.step q e)) (fun c _ q => q)
variable {rest : List Expr}
theorem vw_and1 (ha : VT X P a ga) : VW X P (.BoolOp .And [a] pos) ga := pw_and1 ha
theorem vw_or1 (ha : VT X P a ga) : VW X P (.BoolOp .Or [a] pos) ga := pw_or1 ha
theorem vw_and (ha : VT X P a ga) (hb : VW X P (.BoolOp .And (b :: rest) pos) gb) : VW X P (.BoolOp .And (a :: b :: rest) pos) (mAndB ga gb) := PW_mono (pw_and ha hb) fun σ H Q h => by
  obtain ⟨ρ, F, hR, h⟩ := h
  refine OutB.first hR h fun d F1 H1 e R1 h1 => ?_
  cases d with
  | true => rw [if_pos rfl]; exact ⟨ρ, F1, R1, by simpa using h1⟩
  | false => rw [if_neg (by decide)]; exact h1 H1 F1 (Ext.refl R1.fh)
theorem vw_or (ha : VT X P a ga) (hb : VW X P (.BoolOp .Or (b :: rest) pos) gb) : VW X P (.BoolOp .Or (a :: b :: rest) pos) (mOrB ga gb) := PW_mono (pw_or ha hb) fun σ H Q h => by
  obtain ⟨ρ, F, hR, h⟩ := h
  refine OutB.first hR h fun d F1 H1 e R1 h1 => ?_
  cases d with
  | true => rw [if_pos rfl]; exact h1 H1 F1 (Ext.refl R1.fh)
  | false => rw [if_neg (by decide)]; exact ⟨ρ, F1, R1, by simpa using h1⟩
theorem VW.t (h : VW X P a ga) : VT X P a ga := PW.pt h
theorem vt_not (ha : VT X P a ga) : VT X P (.UnaryOp .Not a pos) (mNotB ga) := PT_mono (pt_not ha) fun σ H Q h => by
  obtain ⟨ρ, F, hR, h⟩ := h
  exact OutB.first hR h fun d F1 H1 e R1 h1 => h1 H1 F1 (Ext.refl R1.fh)
/-- .. as values, of bools -/
def mAnd (fa fb : Evn → RE PyData) (ρ : Evn) : RE PyData := (fa ρ).bind fun d => (ofO (toB d)).bind fun c => if c then fb ρ else .ok (.bool false)
def mOr (fa fb : Evn → RE PyData) (ρ : Evn) : RE PyData := (fa ρ).bind fun d => (ofO (toB d)).bind fun c => if c then .ok (.bool true) else fb ρ
def pNot : PyData → Option PyData
  | .bool b => some (.bool !b)
  | _ => none
def m1 (g : PyData → Option PyData) (fa : Evn → RE PyData) (ρ : Evn) : RE PyData := (fa ρ).bind fun d => ofO (g d)
theorem toB_of {F : Hp} {v : V} {d : PyData} (hv : Vd X.K F v d) {Q : VK} {k : Bool → RE PyData} (h : Out X P σ Q F H ((ofO (toB d)).bind k)) : ∃ c, v = .bl c ∧ Out X P σ Q F H (k c) := by
  cases hv with
  | bl b => exact ⟨b, rfl, h⟩
  | _ => exact h.elim
theorem ve_one {op : BoolOp} (h : VE X P a fa) : VE X P (.BoolOp op [a] pos) fa := pe_one h
theorem ve_and (ha : VE X P a fa) (hb : VE X P (.BoolOp .And (b :: rest) pos) fb) : VE X P (.BoolOp .And (a :: b :: rest) pos) (mAnd fa fb) := PE_mono (pe_and ha hb) fun σ H Q h => by
  obtain ⟨ρ, F, hR, h⟩ := h
  refine Out.first hR h fun d v F1 H1 e1 hv R1 h1 => ?_
  obtain ⟨c, rfl, h2⟩ := toB_of hv h1
  refine ⟨c, rfl, ?_⟩
  cases c with
  | true => rw [if_pos rfl]; exact ⟨ρ, F1, R1, by simpa using h2⟩
  | false => rw [if_neg (by decide)]; exact h2 _ H1 F1 (Ext.refl R1.fh) (.bl _)
theorem ve_or (ha : VE X P a fa) (hb : VE X P (.BoolOp .Or (b :: rest) pos) fb) : VE X P (.BoolOp .Or (a :: b :: rest) pos) (mOr fa fb) := PE_mono (pe_or ha hb) fun σ H Q h => by
  obtain ⟨ρ, F, hR, h⟩ := h
  refine Out.first hR h fun d v F1 H1 e1 hv R1 h1 => ?_
  obtain ⟨c, rfl, h2⟩ := toB_of hv h1
  refine ⟨c, rfl, ?_⟩
  cases c with
  | true => rw [if_pos rfl]; exact h2 _ H1 F1 (Ext.refl R1.fh) (.bl _)
  | false => rw [if_neg (by decide)]; exact ⟨ρ, F1, R1, by simpa using h2⟩
theorem ve_not (ha : VE X P a fa) : VE X P (.UnaryOp .Not a pos) (m1 pNot fa) := PE_mono (pe_not ha) fun σ H Q h => by
  obtain ⟨ρ, F, hR, h⟩ := h
  refine Out.first hR h fun d v F1 H1 e1 hv R1 h1 => ?_
  obtain ⟨r, hr, hq⟩ := h1.ofO
  cases hv with
  | bl b => cases hr; exact ⟨b, rfl, hq _ H1 F1 (Ext.refl R1.fh) (.bl _)⟩
  | _ => cases hr
def pNeg : PyData → Option PyData
  | .int i => some (.int (-i))
  | _ => none
theorem ve_neg (ha : VE X P a fa) : VE X P (.UnaryOp .USub a pos) (m1 pNeg fa) := PE_mono (pe_un un_neg ha) fun σ H Q h => by
  obtain ⟨ρ, F, hR, h⟩ := h
  refine Out.first hR h fun d v F1 H1 e1 hv R1 h1 => ?_
  obtain ⟨r, hr, hq⟩ := h1.ofO
  cases hv with
  | int b => cases hr; exact ⟨b, rfl, hq _ H1 F1 (Ext.refl R1.fh) (.int _)⟩
  | _ => cases hr
def mIf (fc : Evn → RE Bool) (fa fb : Evn → RE PyData) (ρ : Evn) : RE PyData := (fc ρ).bind fun c => if c then fa ρ else fb ρ
theorem OutB.firstV {f : Evn → RE Bool} {k : Bool → RE PyData} {Q : VK} {Q' : Bool → Hp → Prop} (hR : Rep X.K P ρ F σ H) (h : Out X P σ Q F H ((f ρ).bind k))
    (hq : ∀ d F1 H1, Ext F H F1 H1 → Rep X.K P ρ F1 σ H1 → Out X P σ Q F1 H1 (k d) → Q' d H1) : tTV X P f σ H Q' := by
  refine ⟨ρ, F, hR, ?_⟩
  exact R.post_mono (R.post_bind h) (fun d q H' F' e => hq d F' H' e (hR.step e) (Out.step q e)) (fun c _ q => q)
theorem ve_ifExp (hc : VT X P c gc) (ha : VE X P a fa) (hb : VE X P b fb) : VE X P (.IfExp c a b pos) (mIf gc fa fb) := PE_mono (pe_ifExp hc ha hb) fun σ H Q h => by
  obtain ⟨ρ, F, hR, h⟩ := h
  refine OutB.firstV hR h fun d F1 H1 e R1 h1 => ?_
  cases d with
  | true => rw [if_pos rfl]; exact ⟨ρ, F1, R1, by simpa using h1⟩
  | false => rw [if_neg (by decide)]; exact ⟨ρ, F1, R1, by simpa using h1⟩
/-- a op b op' c -/
def mChain (g g' : PyData → PyData → Option PyData) (fa fb fc : Evn → RE PyData) (ρ : Evn) : RE PyData :=
  (fa ρ).bind fun x => (fb ρ).bind fun y => (ofO (g x y)).bind fun z => (ofO (toB z)).bind fun k => if k then (fc ρ).bind fun w => ofO (g' y w) else .ok (.bool false)
theorem rdChain {g g' : PyData → PyData → Option PyData} {σ : Sg} {H : Hp} {Q : VK} (h : tV X P (mChain g g' fa fb fc) σ H Q) : tChain (rV X g) (rV X g') (tV X P fa) (tV X P fb) (tV X P fc) σ H Q := by
  obtain ⟨ρ, F, hR, h⟩ := h
  refine Out.first hR h fun d v F1 H1 e1 hv R1 h1 => ?_
  refine Out.first R1 h1 fun d2 v2 F2 H2 e2 hv2 R2 h2 => ?_
  cases hg : g d d2 with
  | none => rw [hg] at h2; exact h2.elim
  | some z =>
    rw [hg] at h2
    refine ⟨F2, d, d2, z, R2.fh, Vd.mono e2.ff d v hv, hv2, hg, fun v' H' F' e3 hv3 => ?_⟩
    obtain ⟨k, rfl, h3⟩ := toB_of hv3 (Out.step h2 e3)
    refine ⟨k, rfl, ?_⟩
    have R3 := R2.step e3
    cases k with
    | false => rw [if_neg (by decide)]; exact h3 _ H' F' (Ext.refl R3.fh) (.bl _)
    | true =>
      rw [if_pos rfl]
      have h3' : Out X P σ Q F' H' ((fc ρ).bind fun w => ofO (g' d2 w)) := h3
      refine Out.first R3 h3' fun d3 v3 F3 H3 e4 hv4 R4 h4 => ?_
      obtain ⟨r, hr, hq⟩ := h4.ofO
      exact ⟨F3, d2, d3, r, R4.fh, Vd.mono e4.ff d2 v2 (Vd.mono e3.ff d2 v2 hv2), hv4, hr, hq⟩
theorem ve_chain {op op' : CmpOp} {g g' : PyData → PyData → Option PyData} (ho : OpV X (compareOp op) g) (ho' : OpV X (compareOp op') g') (ha : VE X P a fa) (hb : VE X P b fb) (hc : VE X P c fc)
    (hm : lastMarks [op, op'] [b, c] = false := by with_unfolding_all rfl) : VE X P (.Compare a [op, op'] [b, c] pos) (mChain g g' fa fb fc) := PE_mono (pe_chain ho.r ho'.r ha hb hc hm) fun _ _ _ h => rdChain h
theorem vt_chain {op op' : CmpOp} {g g' : PyData → PyData → Option PyData} (ho : OpV X (compareOp op) g) (ho' : OpV X (compareOp op') g') (ha : VE X P a fa) (hb : VE X P b fb) (hc : VE X P c fc)
    (hm : lastMarks [op, op'] [b, c] = false := by with_unfolding_all rfl) : VT X P (.Compare a [op, op'] [b, c] pos) (mB (mChain g g' fa fb fc)) :=
  PT_mono (pt_chain ho.r ho'.r ha hb hc hm) fun σ H Q h => rdB (t := tChain (rV X g) (rV X g') (tV X P fa) (tV X P fb) (tV X P fc)) (fun Q => rdChain) h
end

/-! ### argument lists, displays -/
def OutA (X : Cx) (P : Pm) (σ : Sg) (Q : List V → Hp → Prop) (F H : Hp) (r : RE (List PyData)) : Prop :=
  r.post (fun ds => ∀ vs H' F', Ext F H F' H' → VdAll X.K F' vs ds → Q vs H') (fun c _ => ∀ C H' F', X.mg c = some (.ref C) → Ext F H F' H' → P.W (.ref C) none σ H')
theorem OutA.step {X : Cx} {P : Pm} {σ : Sg} {Q : List V → Hp → Prop} {F H F1 H1 : Hp} {r : RE (List PyData)} (h : OutA X P σ Q F H r) (e : Ext F H F1 H1) : OutA X P σ Q F1 H1 r :=
  R.post_mono h (fun d q v H' F' e' hv => q v H' F' (e.trans e') hv) (fun c _ q C H' F' hm e' => q C H' F' hm (e.trans e'))
def tAV (X : Cx) (P : Pm) (f : Evn → RE (List PyData)) : TA := fun σ H Q => ∃ ρ F, Rep X.K P ρ F σ H ∧ OutA X P σ Q F H (f ρ)
def VA (X : Cx) (P : Pm) (es : List Expr) (f : Evn → RE (List PyData)) : Prop := PA X es (tAV X P f)
theorem PA_mono {X : Cx} {e : List Expr} {t t' : TA} (h : PA X e t) (m : ∀ σ H Q, t' σ H Q → t σ H Q) : PA X e t' := ⟨fun pos pins s σ H Q I q => h.run pos pins s σ H Q I (m σ H Q q)⟩
def mNil (_ : Evn) : RE (List PyData) := .ok []
def mCons (f : Evn → RE PyData) (g : Evn → RE (List PyData)) (ρ : Evn) : RE (List PyData) := (f ρ).bind fun d => (g ρ).bind fun ds => .ok (d :: ds)
def mSeq (k : List PyData → RE PyData) (g : Evn → RE (List PyData)) (ρ : Evn) : RE PyData := (g ρ).bind k
section
variable {X : Cx} {P : Pm} {pos : Pos} {e : Expr} {es : List Expr} {f : Evn → RE PyData} {g : Evn → RE (List PyData)} {σ : Sg} {F H : Hp} {ρ : Evn}
theorem Out.firstA {f : Evn → RE PyData} {k : PyData → RE (List PyData)} {Q : List V → Hp → Prop} {Q' : VK} (hR : Rep X.K P ρ F σ H) (h : OutA X P σ Q F H ((f ρ).bind k))
    (hq : ∀ d v F1 H1, Ext F H F1 H1 → Vd X.K F1 v d → Rep X.K P ρ F1 σ H1 → OutA X P σ Q F1 H1 (k d) → Q' v H1) : tV X P f σ H Q' := by
  refine ⟨ρ, F, hR, ?_⟩
  exact R.post_mono (R.post_bind h) (fun d q v H' F' e hv => hq d v F' H' e hv (hR.step e) (OutA.step q e)) (fun c _ q => q)
theorem OutA.first {f : Evn → RE (List PyData)} {k : List PyData → RE (List PyData)} {Q : List V → Hp → Prop} {Q' : List V → Hp → Prop} (hR : Rep X.K P ρ F σ H) (h : OutA X P σ Q F H ((f ρ).bind k))
    (hq : ∀ d v F1 H1, Ext F H F1 H1 → VdAll X.K F1 v d → Rep X.K P ρ F1 σ H1 → OutA X P σ Q F1 H1 (k d) → Q' v H1) : tAV X P f σ H Q' := by
  refine ⟨ρ, F, hR, ?_⟩
  exact R.post_mono (R.post_bind h) (fun d q v H' F' e hv => hq d v F' H' e hv (hR.step e) (OutA.step q e)) (fun c _ q => q)
theorem OutA.firstV {f : Evn → RE (List PyData)} {k : List PyData → RE PyData} {Q : VK} {Q' : List V → Hp → Prop} (hR : Rep X.K P ρ F σ H) (h : Out X P σ Q F H ((f ρ).bind k))
    (hq : ∀ d v F1 H1, Ext F H F1 H1 → VdAll X.K F1 v d → Rep X.K P ρ F1 σ H1 → Out X P σ Q F1 H1 (k d) → Q' v H1) : tAV X P f σ H Q' := by
  refine ⟨ρ, F, hR, ?_⟩
  exact R.post_mono (R.post_bind h) (fun d q v H' F' e hv => hq d v F' H' e hv (hR.step e) (Out.step q e)) (fun c _ q => q)
theorem va_nil : VA X P [] mNil := PA_mono pa_nil fun σ H Q h => by
  obtain ⟨ρ, F, hR, h⟩ := h
  exact h [] H F (Ext.refl hR.fh) .nil
theorem va_cons (he : VE X P e f) (hr : VA X P es g) (hs : starEach (e :: es) X.env = (false, eval e X.env) :: starEach es X.env := by rfl) : VA X P (e :: es) (mCons f g) := PA_mono (pa_cons he hr hs) fun σ H Q h => by
  obtain ⟨ρ, F, hR, h⟩ := h
  refine Out.firstA hR h fun d v F1 H1 e1 hv R1 h1 => ?_
  refine OutA.first R1 h1 fun ds vs F2 H2 e2 hvs R2 h2 => ?_
  exact h2 _ H2 F2 (Ext.refl R2.fh) (.cons (Vd.mono e2.ff d v hv) hvs)
def mTup (ds : List PyData) : RE PyData := if ds.length ≤ sizeLine then .ok (.tuple ds) else .bad
def mLst (ds : List PyData) : RE PyData := if ds.length ≤ sizeLine then .ok (.list ds) else .bad
theorem Out.ite {Q : VK} {p : Prop} [Decidable p] {d : PyData} (h : Out X P σ Q F H (if p then .ok d else .bad)) : p ∧ ∀ v H' F', Ext F H F' H' → Vd X.K F' v d → Q v H' := by
  by_cases hp : p
  · rw [if_pos hp] at h; exact ⟨hp, h⟩
  · rw [if_neg hp] at h; exact h.elim
theorem ve_tup {k : Nat} (h : VA X P es g) : VE X P (.Tuple es k pos) (mSeq mTup g) := PE_mono (pe_tup h) fun σ H Q h => by
  obtain ⟨ρ, F, hR, h⟩ := h
  refine OutA.firstV hR h fun ds vs F1 H1 e1 hv R1 h1 => ?_
  obtain ⟨hp, hq⟩ := Out.ite h1
  have hl := hv.length
  exact ⟨by omega, new_tup R1.fh (by omega) hv hq⟩
theorem ve_lst (h : VA X P es g) : VE X P (.List es pos) (mSeq mLst g) := PE_mono (pe_lst h) fun σ H Q h => by
  obtain ⟨ρ, F, hR, h⟩ := h
  refine OutA.firstV hR h fun ds vs F1 H1 e1 hv R1 h1 => ?_
  obtain ⟨hp, hq⟩ := Out.ite h1
  have hl := hv.length
  exact ⟨by omega, new_lst R1.fh (by omega) hv hq⟩
end

/-! ### subscripts -/
def pIdx : PyData → PyData → Option PyData
  | .list ds, .int i => atI ds i
  | .tuple ds, .int i => atI ds i
  | .str x, .int i => if x.length ≤ sizeLine then (atI x.cps.toList i).map fun c => .str ⟨#[c]⟩ else none
  | _, _ => none
theorem VdAll.at {K : PySem.W.Frag} {F : Hp} {vs : List V} {ds : List PyData} {i : Int} {d : PyData} (h : VdAll K F vs ds) (e : atI ds i = some d) : ∃ v, atI vs i = some v ∧ Vd K F v d := by
  unfold atI at e ⊢
  rw [h.length]
  cases q : ixN ds.length i with
  | none => rw [q] at e; cases e
  | some j =>
    rw [q] at e
    obtain ⟨v, h1, h2⟩ := h.get (i := j) (d := d) e
    exact ⟨v, h1, h2⟩
theorem strOk_at {x : Str} {i : Int} {c : Nat} (h : PyData.strOk x = true) (e : atI x.cps.toList i = some c) : PyData.strOk ⟨#[c]⟩ = true := by
  unfold atI at e
  cases q : ixN x.cps.toList.length i with
  | none => rw [q] at e; cases e
  | some j =>
    rw [q] at e
    have e' : x.cps.toList[j]? = some c := e
    have hm : c ∈ x.cps.toList := List.mem_of_getElem? e'
    have h' : x.cps.all (fun c => decide (c < 0x110000)) = true := h
    rw [← Array.all_toList] at h'
    have h2 := List.all_eq_true.mp h' c hm
    show (#[c] : Array Nat).all (fun c => decide (c < 0x110000)) = true
    simpa using h2
section
variable {X : Cx} {P : Pm} {pos p2 : Pos} {a b : Expr} {fa fb : Evn → RE PyData}
theorem ix_all : IxR X (rV X pIdx) := by
  intro value slice pins s σ H x y v u Q I rx ry h hs
  obtain ⟨F, d, e, r, sf, hx, hy, hg, hq⟩ := h
  cases hx with
  | lst h1 z1 a1 =>
    cases hy with
    | int i =>
      obtain ⟨w, h2, h3⟩ := a1.at hg
      exact ix_list value slice pins s σ H _ _ v u Q I rx ry ⟨_, _, i, w, rfl, rfl, sf.seq h1, h2, hq _ _ F (Ext.refl sf) h3⟩ hs
    | _ => cases hg
  | tup h1 z1 a1 =>
    cases hy with
    | int i =>
      obtain ⟨w, h2, h3⟩ := a1.at hg
      exact ix_tup value slice pins s σ H _ _ v u Q I rx ry ⟨_, _, i, w, rfl, rfl, same_sqT sf h1, h2, hq _ _ F (Ext.refl sf) h3⟩ hs
    | _ => cases hg
  | str x hx1 =>
    cases hy with
    | int i =>
      obtain ⟨hz, hg⟩ : x.length ≤ sizeLine ∧ (atI x.cps.toList i).map (fun c => PyData.str ⟨#[c]⟩) = some r := by
        have hg' : (if x.length ≤ sizeLine then (atI x.cps.toList i).map fun c => PyData.str ⟨#[c]⟩ else none) = some r := hg
        by_cases hp : x.length ≤ sizeLine
        · rw [if_pos hp] at hg'; exact ⟨hp, hg'⟩
        · rw [if_neg hp] at hg'; cases hg'
      cases q : atI x.cps.toList i with
      | none => rw [q] at hg; cases hg
      | some c =>
        rw [q] at hg
        cases hg
        exact ix_str value slice pins s σ H _ _ v u Q I rx ry ⟨x, i, c, rfl, rfl, hz, q, hq _ _ F (Ext.refl sf) (.str _ (strOk_at hx1 q))⟩ hs
    | _ => cases hg
  | _ => cases hg
theorem ve_ix (ha : VE X P a fa) (hb : VE X P b fb) (hs : PlainIx b := by first | exact (fun _ _ => rfl) | (intro _ _; rfl)) : VE X P (.Subscript a b pos) (m2 pIdx fa fb) := PE_mono (pe_ix ix_all ha hb hs) fun _ _ _ h => rd2 h
/-! slices -/
def cutA {α : Type} (xs : List α) (lo hi : Option Int) : List α := (xs.drop (HT.sIx xs.length 0 lo)).take (HT.sIx xs.length xs.length hi - HT.sIx xs.length 0 lo)
theorem VdAll.cut {K : PySem.W.Frag} {F : Hp} {vs : List V} {ds : List PyData} (h : VdAll K F vs ds) (lo hi : Option Int) : VdAll K F (cutV vs lo hi) (cutA ds lo hi) := by
  unfold cutV cutA
  rw [h.length]
  exact (h.drop _).take _
def OutO (X : Cx) (P : Pm) (σ : Sg) (Q : Option Int → Hp → Prop) (F H : Hp) (r : RE (Option Int)) : Prop :=
  r.post (fun o => ∀ H' F', Ext F H F' H' → Q o H') (fun c _ => ∀ C H' F', X.mg c = some (.ref C) → Ext F H F' H' → P.W (.ref C) none σ H')
theorem OutO.step {σ : Sg} {Q : Option Int → Hp → Prop} {F H F1 H1 : Hp} {r : RE (Option Int)} (h : OutO X P σ Q F H r) (e : Ext F H F1 H1) : OutO X P σ Q F1 H1 r :=
  R.post_mono h (fun d q H' F' e' => q H' F' (e.trans e')) (fun c _ q C H' F' hm e' => q C H' F' hm (e.trans e'))
def tOV (X : Cx) (P : Pm) (f : Evn → RE (Option Int)) : TO := fun σ H Q => ∃ ρ F, Rep X.K P ρ F σ H ∧ OutO X P σ Q F H (f ρ)
def VO (X : Cx) (P : Pm) (e : Option Expr) (f : Evn → RE (Option Int)) : Prop := PO X e (tOV X P f)
theorem PO_mono {X : Cx} {e : Option Expr} {t t' : TO} (h : PO X e t) (m : ∀ σ H Q, t' σ H Q → t σ H Q) : PO X e t' := ⟨fun pins s σ H Q I q => h.run pins s σ H Q I (m σ H Q q)⟩
def mNo (_ : Evn) : RE (Option Int) := .ok none
def toI : PyData → Option Int
  | .int i => some i
  | _ => none
def mPart (f : Evn → RE PyData) (ρ : Evn) : RE (Option Int) := (f ρ).bind fun d => (ofO (toI d)).bind fun i => .ok (some i)
theorem vo_none : VO X P none mNo := PO_mono po_none fun σ H Q h => by
  obtain ⟨ρ, F, hR, h⟩ := h
  exact h H F (Ext.refl hR.fh)
theorem Out.firstO {σ : Sg} {F H : Hp} {ρ : Evn} {f : Evn → RE PyData} {k : PyData → RE (Option Int)} {Q : Option Int → Hp → Prop} {Q' : VK} (hR : Rep X.K P ρ F σ H) (h : OutO X P σ Q F H ((f ρ).bind k))
    (hq : ∀ d v F1 H1, Ext F H F1 H1 → Vd X.K F1 v d → Rep X.K P ρ F1 σ H1 → OutO X P σ Q F1 H1 (k d) → Q' v H1) : tV X P f σ H Q' := by
  refine ⟨ρ, F, hR, ?_⟩
  exact R.post_mono (R.post_bind h) (fun d q v H' F' e hv => hq d v F' H' e hv (hR.step e) (OutO.step q e)) (fun c _ q => q)
theorem OutO.firstV {σ : Sg} {F H : Hp} {ρ : Evn} {f : Evn → RE (Option Int)} {k : Option Int → RE PyData} {Q : VK} {Q' : Option Int → Hp → Prop} (hR : Rep X.K P ρ F σ H) (h : Out X P σ Q F H ((f ρ).bind k))
    (hq : ∀ d F1 H1, Ext F H F1 H1 → Rep X.K P ρ F1 σ H1 → Out X P σ Q F1 H1 (k d) → Q' d H1) : tOV X P f σ H Q' := by
  refine ⟨ρ, F, hR, ?_⟩
  exact R.post_mono (R.post_bind h) (fun d q H' F' e => hq d F' H' e (hR.step e) (Out.step q e)) (fun c _ q => q)
theorem vo_some (h : VE X P a fa) : VO X P (some a) (mPart fa) := PO_mono (po_some h) fun σ H Q h => by
  obtain ⟨ρ, F, hR, h⟩ := h
  refine Out.firstO hR h fun d v F1 H1 e1 hv R1 h1 => ?_
  cases hv with
  | int i => exact ⟨i, rfl, h1 H1 F1 (Ext.refl R1.fh)⟩
  | _ => exact h1.elim
def pCut (d : PyData) (lo hi : Option Int) : Option PyData := match d with
  | .list ds => some (.list (cutA ds lo hi))
  | .tuple ds => some (.tuple (cutA ds lo hi))
  | _ => none
def mCut (f : Evn → RE PyData) (l h : Evn → RE (Option Int)) (ρ : Evn) : RE PyData := (f ρ).bind fun d => (l ρ).bind fun lo => (h ρ).bind fun hi => ofO (pCut d lo hi)
def rCutV (X : Cx) : V → Option Int → Option Int → Hp → VK → Prop := fun x lo hi H Q => ∃ F d r, Same F H ∧ Vd X.K F x d ∧ pCut d lo hi = some r ∧ ∀ v' H' F', Ext F H F' H' → Vd X.K F' v' r → Q v' H'
theorem sl_all : SlR X (rCutV X) := by
  intro pins s σ H x v vl vu lo hi sl Q I rx hs pl pu h
  obtain ⟨F, d, r, sf, hx, hg, hq⟩ := h
  cases hx with
  | lst h1 z1 a1 =>
    cases hg
    exact sl_list pins s σ H _ v vl vu lo hi sl Q I rx hs pl pu ⟨_, _, rfl, sf.seq h1, new_lst sf (Nat.le_trans (cutV_length _ lo hi) z1) (a1.cut lo hi) hq⟩
  | @tup a xs ds h1 z1 a1 =>
    cases hg
    refine sl_tupA pins s σ H _ v vl vu lo hi sl Q I rx hs pl pu ⟨_, _, rfl, same_sqT sf h1, fun e => ?_, fun _ => new_tup sf (Nat.le_trans (cutV_length _ lo hi) z1) (a1.cut lo hi) hq⟩
    refine hq _ _ F (Ext.refl sf) (.tup h1 z1 ?_)
    have e2 : cutA ds lo hi = ds := by
      have hl := a1.length
      unfold cutA
      rw [← hl, e.1, e.2, List.drop_zero, Nat.sub_zero, hl, List.take_length]
    rw [e2]
    exact a1
  | _ => cases hg
theorem ve_cut {lo hi : Option Expr} {l h : Evn → RE (Option Int)} (ha : VE X P a fa) (hl : VO X P lo l) (hh : VO X P hi h) : VE X P (.Subscript a (.Slice lo hi none p2) pos) (mCut fa l h) := PE_mono (pe_slice sl_all ha hl hh) fun σ H Q h => by
  obtain ⟨ρ, F, hR, h⟩ := h
  refine Out.first hR h fun d v F1 H1 e1 hv R1 h1 => ?_
  refine OutO.firstV R1 h1 fun lo F2 H2 e2 R2 h2 => ?_
  refine OutO.firstV R2 h2 fun hi F3 H3 e3 R3 h3 => ?_
  obtain ⟨r, hr, hq⟩ := h3.ofO
  exact ⟨F3, d, r, R3.fh, Vd.mono (e2.trans e3).ff d v hv, hr, hq⟩
end
end PV
end
section
set_option Elab.async false
set_option linter.all false
set_option maxRecDepth 100000
set_option maxHeartbeats 4000000
namespace PV
open PySem PySem.Spec PyProof.Rows L2

/-! ### built-in functions by data -/
def rCV (X : Cx) (g : List PyData → Option PyData) : List V → Hp → VK → Prop := fun xs H Q => ∃ F ds r, Same F H ∧ VdAll X.K F xs ds ∧ g ds = some r ∧ ∀ v' H' F', Ext F H F' H' → Vd X.K F' v' r → Q v' H'
def mCall (g : List PyData → Option PyData) (fa : Evn → RE (List PyData)) (ρ : Evn) : RE PyData := (fa ρ).bind fun ds => ofO (g ds)
section
variable {X : Cx} {P : Pm} {pos p : Pos} {e : Expr} {es : List Expr} {fa : Evn → RE (List PyData)} {g : List PyData → Option PyData} {x : Str} {id T : String}
theorem rdCall {σ : Sg} {H : Hp} {Q : VK} (h : tV X P (mCall g fa) σ H Q) : tCB (rCV X g) (tAV X P fa) σ H Q := by
  obtain ⟨ρ, F, hR, h⟩ := h
  refine OutA.firstV hR h fun ds vs F1 H1 e1 hv R1 h1 => ?_
  obtain ⟨r, hr, hq⟩ := h1.ofO
  exact ⟨F1, ds, r, R1.fh, hv, hr, hq⟩
theorem ve_callB (hc : CallR X (.builtin id) (rCV X g)) (hg : Gl X x) (hm : X.mg x = none) (hv : bootBuiltins x = some (.builtin id)) (ha : VA X P (e :: es) fa) (hn : x ≠ "__name__" := by decide) (hdb : (x == ("__debug__" : Str)) = false := by decide)
    (he : starEach (e :: es) X.env = (false, eval e X.env) :: starEach es X.env := by rfl) (hpl : (backTo pos (starEach es X.env)).any (·.1) = false := by rfl) : VE X P (.Call (.Name x p) (e :: es) [] pos) (mCall g fa) :=
  PE_mono (pe_callB hc hg hm hv ha hn hdb he hpl) fun _ _ _ h => rdCall h
theorem ve_callTy (hc : CallR X (.type T) (rCV X g)) (hg : Gl X x) (hm : X.mg x = none) (hv : bootBuiltins x = some (.type T)) (ha : VA X P (e :: es) fa) (hn : x ≠ "__name__" := by decide) (hdb : (x == ("__debug__" : Str)) = false := by decide)
    (he : starEach (e :: es) X.env = (false, eval e X.env) :: starEach es X.env := by rfl) (hpl : (backTo pos (starEach es X.env)).any (·.1) = false := by rfl) : VE X P (.Call (.Name x p) (e :: es) [] pos) (mCall g fa) :=
  PE_mono (pe_callTy hc hg hm hv ha hn hdb he hpl) fun _ _ _ h => rdCall h
/-- a module's name for a built-in function (gcd) -/
theorem ve_callBfun (hc : CallR X (.builtin id) (rCV X g)) (hg : Gl X x) (hm : X.mg x = some (.builtin id)) (ha : VA X P (e :: es) fa) (hdb : (x == ("__debug__" : Str)) = false := by decide)
    (he : starEach (e :: es) X.env = (false, eval e X.env) :: starEach es X.env := by rfl) (hpl : (backTo pos (starEach es X.env)).any (·.1) = false := by rfl) : VE X P (.Call (.Name x p) (e :: es) [] pos) (mCall g fa) :=
  PE_mono (pe_callBfun hc hg hm ha hdb he hpl) fun _ _ _ h => rdCall h
end

/-! the meanings -/
def bLen : List PyData → Option PyData
  | [.list ds] => some (.int ds.length)
  | [.tuple ds] => some (.int ds.length)
  | [.str x] => if x.length ≤ sizeLine then some (.int x.length) else none
  | _ => none
def bInt : List PyData → Option PyData
  | [.int i] => some (.int i)
  | [.bool b] => some (.int (if b then 1 else 0))
  | _ => none
def bAbs : List PyData → Option PyData
  | [.int i] => some (.int (if i < 0 then -i else i))
  | _ => none
def bGcd : List PyData → Option PyData
  | [.int a, .int b] => some (.int ((Nat.gcd a.natAbs b.natAbs : Nat) : Int))
  | _ => none
def ints? : List PyData → Option (List Int)
  | [] => some []
  | .int i :: r => (ints? r).map (i :: ·)
  | _ => none
def bools? : List PyData → Option (List Bool)
  | [] => some []
  | .bool i :: r => (bools? r).map (i :: ·)
  | _ => none
theorem ints?_map (ns : List Int) : ints? (ns.map .int) = some ns := by
  induction ns with
  | nil => rfl
  | cons n r ih => simp only [List.map_cons, ints?, ih, Option.map_some]
theorem bools?_map (ns : List Bool) : bools? (ns.map .bool) = some ns := by
  induction ns with
  | nil => rfl
  | cons n r ih => simp only [List.map_cons, bools?, ih, Option.map_some]
theorem ints?_eq : ∀ {ds : List PyData} {ns : List Int}, ints? ds = some ns → ds = ns.map .int
  | [], _, h => by cases h; rfl
  | .int i :: r, ns, h => by
    cases q : ints? r with
    | none => simp [ints?, q] at h
    | some ms =>
      simp only [ints?, q, Option.map_some, Option.some.injEq] at h
      subst h
      rw [ints?_eq q]; rfl
  | .none :: r, _, h => nomatch h
  | .bool _ :: r, _, h => nomatch h
  | .str _ :: r, _, h => nomatch h
  | .list _ :: r, _, h => nomatch h
  | .tuple _ :: r, _, h => nomatch h
  | .dict _ :: r, _, h => nomatch h
theorem bools?_eq : ∀ {ds : List PyData} {ns : List Bool}, bools? ds = some ns → ds = ns.map .bool
  | [], _, h => by cases h; rfl
  | .bool i :: r, ns, h => by
    cases q : bools? r with
    | none => simp [bools?, q] at h
    | some ms =>
      simp only [bools?, q, Option.map_some, Option.some.injEq] at h
      subst h
      rw [bools?_eq q]; rfl
  | .none :: r, _, h => nomatch h
  | .int _ :: r, _, h => nomatch h
  | .str _ :: r, _, h => nomatch h
  | .list _ :: r, _, h => nomatch h
  | .tuple _ :: r, _, h => nomatch h
  | .dict _ :: r, _, h => nomatch h
theorem VdAll.ints {K : PySem.W.Frag} {F : Hp} : ∀ {ns : List Int} {vs : List V}, VdAll K F vs (ns.map .int) → vs = ns.map V.int
  | [], _, h => by cases h; rfl
  | n :: r, _, h => by
    cases h with
    | cons h1 h2 => cases h1; rw [VdAll.ints h2]; rfl
theorem VdAll.bools {K : PySem.W.Frag} {F : Hp} : ∀ {ns : List Bool} {vs : List V}, VdAll K F vs (ns.map .bool) → vs = ns.map V.bl
  | [], _, h => by cases h; rfl
  | n :: r, _, h => by
    cases h with
    | cons h1 h2 => cases h1; rw [VdAll.bools h2]; rfl
def bSum : List PyData → Option PyData
  | [.list ds] => (ints? ds).map fun ns => .int ns.sum
  | _ => none
def bAny : List PyData → Option PyData
  | [.list ds] => (bools? ds).map fun ns => .bool (ns.any id)
  | _ => none
def bAll : List PyData → Option PyData
  | [.list ds] => (bools? ds).map fun ns => .bool (ns.all id)
  | _ => none
/-- the greatest, the least -/
def lmax : List Int → Option Int
  | [] => none
  | n :: r => some (r.foldl max n)
def lmin : List Int → Option Int
  | [] => none
  | n :: r => some (r.foldl min n)
theorem foldl_max (r : List Int) : ∀ n : Int, (r.foldl max n = n ∨ r.foldl max n ∈ r) ∧ n ≤ r.foldl max n ∧ ∀ y ∈ r, y ≤ r.foldl max n := by
  induction r with
  | nil => intro n; simp
  | cons a r ih =>
    intro n
    obtain ⟨h1, h2, h3⟩ := ih (max n a)
    simp only [List.foldl_cons]
    refine ⟨?_, by omega, fun y hy => ?_⟩
    · rcases h1 with h1 | h1
      · rw [h1]
        rcases Int.le_total n a with q | q
        · right; rw [Int.max_eq_right q]; exact List.mem_cons_self
        · left; exact Int.max_eq_left q
      · right; exact List.mem_cons_of_mem _ h1
    · rcases List.mem_cons.mp hy with rfl | hy
      · omega
      · exact h3 y hy
theorem foldl_min (r : List Int) : ∀ n : Int, (r.foldl min n = n ∨ r.foldl min n ∈ r) ∧ r.foldl min n ≤ n ∧ ∀ y ∈ r, r.foldl min n ≤ y := by
  induction r with
  | nil => intro n; simp
  | cons a r ih =>
    intro n
    obtain ⟨h1, h2, h3⟩ := ih (min n a)
    simp only [List.foldl_cons]
    refine ⟨?_, by omega, fun y hy => ?_⟩
    · rcases h1 with h1 | h1
      · rw [h1]
        rcases Int.le_total n a with q | q
        · left; exact Int.min_eq_left q
        · right; rw [Int.min_eq_right q]; exact List.mem_cons_self
      · right; exact List.mem_cons_of_mem _ h1
    · rcases List.mem_cons.mp hy with rfl | hy
      · omega
      · exact h3 y hy
theorem lmax_mem {ns : List Int} {m : Int} (h : lmax ns = some m) : m ∈ ns ∧ ∀ y ∈ ns, y ≤ m := by
  cases ns with
  | nil => cases h
  | cons n r =>
    cases h
    obtain ⟨h1, h2, h3⟩ := foldl_max r n
    refine ⟨?_, fun y hy => ?_⟩
    · rcases h1 with q | q
      · rw [q]; exact List.mem_cons_self
      · exact List.mem_cons_of_mem _ q
    · rcases List.mem_cons.mp hy with rfl | hy
      · exact h2
      · exact h3 y hy
theorem lmin_mem {ns : List Int} {m : Int} (h : lmin ns = some m) : m ∈ ns ∧ ∀ y ∈ ns, m ≤ y := by
  cases ns with
  | nil => cases h
  | cons n r =>
    cases h
    obtain ⟨h1, h2, h3⟩ := foldl_min r n
    refine ⟨?_, fun y hy => ?_⟩
    · rcases h1 with q | q
      · rw [q]; exact List.mem_cons_self
      · exact List.mem_cons_of_mem _ q
    · rcases List.mem_cons.mp hy with rfl | hy
      · exact h2
      · exact h3 y hy
theorem lmax_of {ns : List Int} {m : Int} (h1 : m ∈ ns) (h2 : ∀ y ∈ ns, y ≤ m) : lmax ns = some m := by
  cases ns with
  | nil => cases h1
  | cons n r =>
    have h := lmax_mem (ns := n :: r) (m := r.foldl max n) rfl
    have a := h2 _ h.1
    have b := h.2 _ h1
    exact congrArg some (Int.le_antisymm a b)
theorem lmin_of {ns : List Int} {m : Int} (h1 : m ∈ ns) (h2 : ∀ y ∈ ns, m ≤ y) : lmin ns = some m := by
  cases ns with
  | nil => cases h1
  | cons n r =>
    have h := lmin_mem (ns := n :: r) (m := r.foldl min n) rfl
    have a := h2 _ h.1
    have b := h.2 _ h1
    exact congrArg some (Int.le_antisymm b a)
def bMax : List PyData → Option PyData
  | [.int i, .int j] => some (.int (if j > i then j else i))
  | [.list ds] => (ints? ds).bind fun ns => (lmax ns).map .int
  | _ => none
def bMin : List PyData → Option PyData
  | [.int i, .int j] => some (.int (if j < i then j else i))
  | [.list ds] => (ints? ds).bind fun ns => (lmin ns).map .int
  | _ => none
def bList : List PyData → Option PyData
  | [.list ds] => some (.list ds)
  | [.tuple ds] => some (.list ds)
  | _ => none
def bTuple : List PyData → Option PyData
  | [.list ds] => some (.tuple ds)
  | [.tuple ds] => some (.tuple ds)
  | _ => none
section
variable {X : Cx}
theorem vd1 {K : PySem.W.Frag} {F : Hp} {vs : List V} {d : PyData} (h : VdAll K F vs [d]) : ∃ v, vs = [v] ∧ Vd K F v d := by
  cases h with
  | cons h1 h2 => cases h2; exact ⟨_, rfl, h1⟩
theorem vd2 {K : PySem.W.Frag} {F : Hp} {vs : List V} {d e : PyData} (h : VdAll K F vs [d, e]) : ∃ v u, vs = [v, u] ∧ Vd K F v d ∧ Vd K F u e := by
  cases h with
  | cons h1 h2 =>
    obtain ⟨u, rfl, h3⟩ := vd1 h2
    exact ⟨_, u, rfl, h1, h3⟩
theorem cb_len : CallR X (.builtin "len") (rCV X bLen) := by
  intro pins s σ H xs us Q I r h
  obtain ⟨F, ds, d, sf, hv, hg, hq⟩ := h
  unfold bLen at hg
  split at hg
  · cases hg
    obtain ⟨v, rfl, h1⟩ := vd1 hv
    cases h1 with
    | lst hs hz ha =>
      refine call_len_seq pins s σ H _ us Q I r ⟨_, _, rfl, .inl (sf.seq hs), ?_⟩
      rw [ha.length]; exact hq _ _ F (Ext.refl sf) (.int _)
  · cases hg
    obtain ⟨v, rfl, h1⟩ := vd1 hv
    cases h1 with
    | tup hs hz ha =>
      refine call_len_seq pins s σ H _ us Q I r ⟨_, _, rfl, .inr (same_sqT sf hs), ?_⟩
      rw [ha.length]; exact hq _ _ F (Ext.refl sf) (.int _)
  · obtain ⟨hp, rfl⟩ := some_of_if hg
    obtain ⟨v, rfl, h1⟩ := vd1 hv
    cases h1 with
    | str _ hx => exact call_len_str pins s σ H _ us Q I r ⟨_, rfl, hp, hq _ _ F (Ext.refl sf) (.int _)⟩
  · cases hg
theorem cb_int : CallR X (.type "int") (rCV X bInt) := by
  intro pins s σ H xs us Q I r h
  obtain ⟨F, ds, d, sf, hv, hg, hq⟩ := h
  unfold bInt at hg
  split at hg
  · cases hg
    obtain ⟨v, rfl, h1⟩ := vd1 hv
    cases h1
    exact call_int1 pins s σ H _ us Q I r (.inl ⟨_, rfl, hq _ _ F (Ext.refl sf) (.int _)⟩)
  · cases hg
    obtain ⟨v, rfl, h1⟩ := vd1 hv
    cases h1
    exact call_int1 pins s σ H _ us Q I r (.inr ⟨_, rfl, hq _ _ F (Ext.refl sf) (.int _)⟩)
  · cases hg
theorem cb_abs : CallR X (.builtin "abs") (rCV X bAbs) := by
  intro pins s σ H xs us Q I r h
  obtain ⟨F, ds, d, sf, hv, hg, hq⟩ := h
  unfold bAbs at hg
  split at hg
  · cases hg
    obtain ⟨v, rfl, h1⟩ := vd1 hv
    cases h1
    exact call_abs pins s σ H _ us Q I r ⟨_, rfl, hq _ _ F (Ext.refl sf) (.int _)⟩
  · cases hg
theorem cb_gcd : CallR X (.builtin "math.gcd") (rCV X bGcd) := by
  intro pins s σ H xs us Q I r h
  obtain ⟨F, ds, d, sf, hv, hg, hq⟩ := h
  unfold bGcd at hg
  split at hg
  · cases hg
    obtain ⟨v, u, rfl, h1, h2⟩ := vd2 hv
    cases h1
    cases h2
    exact cr_gcd pins s σ H _ us Q I r ⟨_, _, rfl, hq _ _ F (Ext.refl sf) (.int _)⟩
  · cases hg
theorem vints {F : Hp} {v : V} {ds : List PyData} {ns : List Int} (h : Vd X.K F v (.list ds)) (e : ints? ds = some ns) : ∃ a, v = .ref a ∧ SqL X.K F a (ns.map V.int) := by
  rw [ints?_eq e] at h
  cases h with
  | lst hs hz ha =>
    rw [ha.ints] at hs
    exact ⟨_, rfl, hs⟩
theorem vbools {F : Hp} {v : V} {ds : List PyData} {ns : List Bool} (h : Vd X.K F v (.list ds)) (e : bools? ds = some ns) : ∃ a, v = .ref a ∧ SqL X.K F a (ns.map V.bl) := by
  rw [bools?_eq e] at h
  cases h with
  | lst hs hz ha =>
    rw [ha.bools] at hs
    exact ⟨_, rfl, hs⟩
theorem cb_sum (hc : X.calm = true) : CallR X (.builtin "sum") (rCV X bSum) := by
  intro pins s σ H xs us Q I r h
  obtain ⟨F, ds, d, sf, hv, hg, hq⟩ := h
  unfold bSum at hg
  split at hg
  · rename_i es
    cases e : ints? es with
    | none => rw [e] at hg; cases hg
    | some ns =>
      rw [e] at hg
      cases hg
      obtain ⟨v, rfl, h1⟩ := vd1 hv
      obtain ⟨a, rfl, hs⟩ := vints h1 e
      exact cr_sum hc pins s σ H _ us Q I r ⟨a, ns, rfl, sf.seq hs, hq _ _ F (Ext.refl sf) (.int _)⟩
  · cases hg
theorem cb_any (hc : X.calm = true) : CallR X (.builtin "any") (rCV X bAny) := by
  intro pins s σ H xs us Q I r h
  obtain ⟨F, ds, d, sf, hv, hg, hq⟩ := h
  unfold bAny at hg
  split at hg
  · rename_i es
    cases e : bools? es with
    | none => rw [e] at hg; cases hg
    | some ns =>
      rw [e] at hg
      cases hg
      obtain ⟨v, rfl, h1⟩ := vd1 hv
      obtain ⟨a, rfl, hs⟩ := vbools h1 e
      exact cr_any hc pins s σ H _ us Q I r ⟨a, ns, rfl, sf.seq hs, hq _ _ F (Ext.refl sf) (.bl _)⟩
  · cases hg
theorem cb_all (hc : X.calm = true) : CallR X (.builtin "all") (rCV X bAll) := by
  intro pins s σ H xs us Q I r h
  obtain ⟨F, ds, d, sf, hv, hg, hq⟩ := h
  unfold bAll at hg
  split at hg
  · rename_i es
    cases e : bools? es with
    | none => rw [e] at hg; cases hg
    | some ns =>
      rw [e] at hg
      cases hg
      obtain ⟨v, rfl, h1⟩ := vd1 hv
      obtain ⟨a, rfl, hs⟩ := vbools h1 e
      exact cr_all hc pins s σ H _ us Q I r ⟨a, ns, rfl, sf.seq hs, hq _ _ F (Ext.refl sf) (.bl _)⟩
  · cases hg
theorem lmax_pos {ns : List Int} {m : Int} (h : lmax ns = some m) : 0 < ns.length := by
  cases ns with
  | nil => cases h
  | cons a r => simp
theorem lmin_pos {ns : List Int} {m : Int} (h : lmin ns = some m) : 0 < ns.length := by
  cases ns with
  | nil => cases h
  | cons a r => simp
theorem cb_max (hc : X.calm = true) : CallR X (.builtin "max") (rCV X bMax) := by
  intro pins s σ H xs us Q I r h
  obtain ⟨F, ds, d, sf, hv, hg, hq⟩ := h
  unfold bMax at hg
  split at hg
  · cases hg
    obtain ⟨v, u, rfl, h1, h2⟩ := vd2 hv
    cases h1
    cases h2
    exact call_max2 hc pins s σ H _ us Q I r ⟨_, _, rfl, hq _ _ F (Ext.refl sf) (.int _)⟩
  · rename_i es
    cases e : ints? es with
    | none => rw [e] at hg; cases hg
    | some ns =>
      rw [e] at hg
      cases e2 : lmax ns with
      | none => simp [e2] at hg
      | some m =>
        simp only [Option.bind_some, e2, Option.map_some, Option.some.injEq] at hg
        subst hg
        obtain ⟨v, rfl, h1⟩ := vd1 hv
        obtain ⟨a, rfl, hs⟩ := vints h1 e
        refine cr_max hc pins s σ H _ us Q I r ⟨a, ns, rfl, sf.seq hs, lmax_pos e2, fun k k1 k2 => ?_⟩
        have e3 := lmax_of k1 k2
        rw [e2] at e3
        cases e3
        exact hq _ _ F (Ext.refl sf) (.int _)
  · cases hg
theorem cb_min (hc : X.calm = true) : CallR X (.builtin "min") (rCV X bMin) := by
  intro pins s σ H xs us Q I r h
  obtain ⟨F, ds, d, sf, hv, hg, hq⟩ := h
  unfold bMin at hg
  split at hg
  · cases hg
    obtain ⟨v, u, rfl, h1, h2⟩ := vd2 hv
    cases h1
    cases h2
    exact call_min2 hc pins s σ H _ us Q I r ⟨_, _, rfl, hq _ _ F (Ext.refl sf) (.int _)⟩
  · rename_i es
    cases e : ints? es with
    | none => rw [e] at hg; cases hg
    | some ns =>
      rw [e] at hg
      cases e2 : lmin ns with
      | none => simp [e2] at hg
      | some m =>
        simp only [Option.bind_some, e2, Option.map_some, Option.some.injEq] at hg
        subst hg
        obtain ⟨v, rfl, h1⟩ := vd1 hv
        obtain ⟨a, rfl, hs⟩ := vints h1 e
        refine cr_min hc pins s σ H _ us Q I r ⟨a, ns, rfl, sf.seq hs, lmin_pos e2, fun k k1 k2 => ?_⟩
        have e3 := lmin_of k1 k2
        rw [e2] at e3
        cases e3
        exact hq _ _ F (Ext.refl sf) (.int _)
  · cases hg
theorem cb_list : CallR X (.type "list") (rCV X bList) := by
  intro pins s σ H xs us Q I r h
  obtain ⟨F, ds, d, sf, hv, hg, hq⟩ := h
  unfold bList at hg
  split at hg
  · cases hg
    obtain ⟨v, rfl, h1⟩ := vd1 hv
    cases h1 with
    | lst hs hz ha => exact call_list_of pins s σ H _ us Q I r ⟨_, _, rfl, .inl (sf.seq hs), new_lst sf hz ha hq⟩
  · cases hg
    obtain ⟨v, rfl, h1⟩ := vd1 hv
    cases h1 with
    | tup hs hz ha => exact call_list_of pins s σ H _ us Q I r ⟨_, _, rfl, .inr (same_sqT sf hs), new_lst sf hz ha hq⟩
  · cases hg
theorem cb_tuple : CallR X (.type "tuple") (rCV X bTuple) := by
  intro pins s σ H xs us Q I r h
  obtain ⟨F, ds, d, sf, hv, hg, hq⟩ := h
  unfold bTuple at hg
  split at hg
  · cases hg
    obtain ⟨v, rfl, h1⟩ := vd1 hv
    cases h1 with
    | lst hs hz ha => exact call_tuple_of pins s σ H _ us Q I r ⟨_, _, rfl, .inl ⟨sf.seq hs, new_tup sf hz ha hq⟩⟩
  · cases hg
    obtain ⟨v, rfl, h1⟩ := vd1 hv
    cases h1 with
    | tup hs hz ha => exact call_tuple_of pins s σ H _ us Q I r ⟨_, _, rfl, .inr ⟨same_sqT sf hs, hq _ _ F (Ext.refl sf) (.tup hs hz ha)⟩⟩
  · cases hg
end

/-! ### isinstance -/
inductive Ty where | int | bool | str | list | tuple | none
  deriving DecidableEq
def Ty.name : Ty → String
  | .int => "int" | .bool => "bool" | .str => "str" | .list => "list" | .tuple => "tuple" | .none => "NoneType"
def tyOf : PyData → Ty
  | .none => .none | .bool _ => .bool | .int _ => .int | .str _ => .str | .list _ => .list | .tuple _ => .tuple | .dict _ => .none
def Ty.sub : Ty → Ty → Bool
  | .int, .int => true | .bool, .int => true | .bool, .bool => true | .str, .str => true | .list, .list => true | .tuple, .tuple => true | .none, .none => true
  | _, _ => false
def isTy (T : Ty) (d : PyData) : Bool := (tyOf d).sub T
theorem kitTy {K : PySem.W.Frag} (a b : Ty) (hb : b ≠ .none) : PySem.W.kitOne K (.type a.name) (.type b.name) = some (a.sub b) := by
  apply kit_ty
  cases a <;> cases b <;> first | exact absurd rfl hb | decide +kernel
section
variable {X : Cx} {P : Pm} {pos p p2 : Pos} {e : Expr} {f : Evn → RE PyData} {x : Str}
theorem vd_ty {F H : Hp} {v : V} {d : PyData} (sf : Same F H) (h : Vd X.K F v d) : TyX X.K H v (.type (tyOf d).name) := by
  cases h with
  | non => exact .base .non
  | bl b => exact .base (.bl b)
  | int i => exact .base (.int i)
  | str x hx => exact .base (.str x)
  | lst hs hz ha =>
    rcases sf.seq hs with (h | ⟨o, h⟩) | ⟨o, its, n, hk, hc, _⟩
    · exact .base (.lst h)
    · exact .base (.frz h)
    · exact .kList hk hc
  | tup hs hz ha =>
    rcases same_sqT sf hs with (h | ⟨o, h⟩) | ⟨o, its, n, hk, hc, _⟩
    · exact .base (.tup h)
    · exact .fTuple h
    · exact .kTuple hk hc
/-- a built-in class as a value -/
theorem pe_cls {T : Ty} (hg : Gl X x) (hm : X.mg x = none) (hv : bootBuiltins x = some (.type T.name)) (hn : x ≠ "__name__" := by decide) (hdb : (x == ("__debug__" : Str)) = false := by decide) : PE X (.Name x p) (tC (.ty T.name)) := pe_bltn hg hm hv rfl hn hdb
def mIs (T : Ty) (f : Evn → RE PyData) (ρ : Evn) : RE PyData := (f ρ).bind fun d => .ok (.bool (isTy T d))
theorem ve_isi {T : Ty} (hT : T ≠ .none) (he : VE X P e f) (hg : Gl X "isinstance") (hm : X.mg "isinstance" = none) (hg2 : Gl X x) (hm2 : X.mg x = none) (hv : bootBuiltins x = some (.type T.name)) (hn : x ≠ "__name__" := by decide) (hdb : (x == ("__debug__" : Str)) = false := by decide)
    (h1 : starEach [e, .Name x p2] X.env = (false, eval e X.env) :: starEach [.Name x p2] X.env := by rfl) (h2 : starEach [.Name x p2] X.env = (false, eval (.Name x p2) X.env) :: starEach [] X.env := by rfl) (hpl : (backTo pos (starEach [.Name x p2] X.env)).any (·.1) = false := by rfl) :
    VE X P (.Call (.Name "isinstance" p) [e, .Name x p2] [] pos) (mIs T f) :=
  PE_mono (pe_callB call_isi hg hm (by decide +kernel) (pa_cons he (pa_cons (pe_cls hg2 hm2 hv hn hdb) pa_nil h2) h1) (he := h1) (hpl := hpl)) fun σ H Q h => by
    obtain ⟨ρ, F, hR, h⟩ := h
    refine Out.first hR h fun d v F1 H1 e1 hv R1 h1 => ?_
    exact ⟨v, _, _, _, _, rfl, .ty _, vd_ty R1.fh hv, kitTy _ _ hT, h1 _ H1 F1 (Ext.refl R1.fh) (.bl _)⟩
/-- isinstance(e, (T, U)) -/
def mIs2 (T U : Ty) (f : Evn → RE PyData) (ρ : Evn) : RE PyData := (f ρ).bind fun d => .ok (.bool (isTy T d || isTy U d))
theorem ve_isi2 {T U : Ty} {y : Str} {p3 p4 : Pos} {k : Nat} (hT : T ≠ .none) (hU : U ≠ .none) (he : VE X P e f) (hg : Gl X "isinstance") (hm : X.mg "isinstance" = none) (hg2 : Gl X x) (hm2 : X.mg x = none) (hv : bootBuiltins x = some (.type T.name))
    (hg3 : Gl X y) (hm3 : X.mg y = none) (hv3 : bootBuiltins y = some (.type U.name)) (hn : x ≠ "__name__" := by decide) (hdb : (x == ("__debug__" : Str)) = false := by decide) (hn3 : y ≠ "__name__" := by decide) (hdb3 : (y == ("__debug__" : Str)) = false := by decide)
    (h1 : starEach [e, .Tuple [.Name x p2, .Name y p3] k p4] X.env = (false, eval e X.env) :: starEach [.Tuple [.Name x p2, .Name y p3] k p4] X.env := by rfl) (h2 : starEach [.Tuple [.Name x p2, .Name y p3] k p4] X.env = (false, eval (.Tuple [.Name x p2, .Name y p3] k p4) X.env) :: starEach [] X.env := by rfl)
    (hpl : (backTo pos (starEach [.Tuple [.Name x p2, .Name y p3] k p4] X.env)).any (·.1) = false := by rfl)
    (h3 : starEach [.Name x p2, .Name y p3] X.env = (false, eval (.Name x p2) X.env) :: starEach [.Name y p3] X.env := by rfl) (h4 : starEach [.Name y p3] X.env = (false, eval (.Name y p3) X.env) :: starEach [] X.env := by rfl) :
    VE X P (.Call (.Name "isinstance" p) [e, .Tuple [.Name x p2, .Name y p3] k p4] [] pos) (mIs2 T U f) :=
  PE_mono (pe_callB call_isiT hg hm (by decide +kernel) (pa_cons he (pa_cons (pe_tup (pa_cons (pe_cls hg2 hm2 hv hn hdb) (pa_cons (pe_cls hg3 hm3 hv3 hn3 hdb3) pa_nil h4) h3)) pa_nil h2) h1) (he := h1) (hpl := hpl)) fun σ H Q h => by
    obtain ⟨ρ, F, hR, h⟩ := h
    refine Out.first hR h fun d v F1 H1 e1 hv R1 h1 => ?_
    refine ⟨by show 2 ≤ sizeLine; decide, fun tp hp => ?_⟩
    refine ⟨v, tp, _, _, _, _, rfl, upd_same, .cons (.ty _) (.cons (.ty _) .nil), vd_ty (R1.fh.trans (same_upd hp)) hv, kitAny_cons (r := isTy T d || isTy U d) (kitTy _ _ hT) (fun hb => kitAny_cons (kitTy _ _ hU) (fun hb2 => ?_) (fun hb2 => ?_)) (fun hb => ?_), ?_⟩
    · have a1 : isTy T d = false := hb
      have a2 : isTy U d = false := hb2
      rw [a1, a2]; exact kitAny_nil
    · have a2 : isTy U d = true := hb2
      rw [a2, Bool.or_true]
    · have a1 : isTy T d = true := hb
      rw [a1, Bool.true_or]
    · exact h1 _ _ F1 (Ext.beside R1.fh hp) (.bl _)
end
end PV
end
section
set_option Elab.async false
set_option linter.all false
set_option maxRecDepth 100000
set_option maxHeartbeats 4000000
namespace PV
open PySem PySem.Spec PyProof.Rows L2

/-! ### defs -/
/-- a def's promise by its meaning: what stood is as it was, the answer is the datum -/
def SpV (K : PySem.W.Frag) (mg : Str → Option Value) (n : Nat) (sem : List PyData → RE PyData) : Sp := fun vs H Q E => ∃ F ds, Same F H ∧ VdAll K F vs ds ∧ ds.length = n ∧
  (sem ds).post (fun d => ∀ v H' F', Ext F H F' H' → Vd K F' v d → Q v H') (fun c _ => ∀ C H' F', mg c = some (.ref C) → Ext F H F' H' → E (.ref C) none H')
structure FnV (P : Program) (w : World) (K : PySem.W.Frag) (mg : Str → Option Value) (base : Heap) (k : Nat) (f : Addr) (fd : FuncData) (ps : List Str) (sem : List PyData → RE PyData) : Prop where
  ok : FnOk P w K mg base (L2.CX P w) k f fd ps (SpV K mg ps.length sem)
  ar : ∀ ds, ds.length ≠ ps.length → sem ds = .bad
theorem FnV.mono {P : Program} {w : World} {K : PySem.W.Frag} {mg : Str → Option Value} {base : Heap} {j k : Nat} {f : Addr} {fd : FuncData} {ps : List Str} {sem : List PyData → RE PyData} (h : FnV P w K mg base j f fd ps sem) (hk : j ≤ k) :
    FnV P w K mg base k f fd ps sem := ⟨h.ok.mono hk, h.ar⟩
/-- nothing is claimed -/
theorem FnV.bad {P : Program} {w : World} {K : PySem.W.Frag} {mg : Str → Option Value} {base : Heap} {k : Nat} {f : Addr} {fd : FuncData} {ps : List Str} : FnV P w K mg base k f fd ps (fun _ => .bad) :=
  ⟨⟨fun vs H Q E ⟨F, ds, _, _, _, h⟩ => h.elim, fun _ _ _ _ _ _ _ _ _ _ _ _ _ ⟨F, ds, _, _, _, h⟩ => h.elim⟩, fun _ _ => rfl⟩
section
variable {X : Cx} {P : Pm} {pos p : Pos} {e : Expr} {es : List Expr} {fa : Evn → RE (List PyData)} {sem : List PyData → RE PyData} {x : Str} {k : Nat} {f : Addr} {fd : FuncData} {ps : List Str}
theorem spV_of {σ : Sg} {H F : Hp} {Q : VK} {vs : List V} {ds : List PyData} (ar : ∀ ds, ds.length ≠ ps.length → sem ds = .bad) (sf : Same F H) (hv : VdAll X.K F vs ds) (h : Out X P σ Q F H (sem ds)) : SpV X.K X.mg ps.length sem vs H Q (WE P.W σ) := by
  refine ⟨F, ds, sf, hv, ?_, R.post_mono h (fun d q => q) (fun c _ q => q)⟩
  by_cases hl : ds.length = ps.length
  · exact hl
  · rw [ar ds hl] at h; exact h.elim
theorem ve_call (F : FnV X.prog X.w X.K X.mg X.base k f fd ps sem) (hr : Room k X.A) (hg : Gl X x) (hm : X.mg x = some (.ref f)) (hk : PySem.W.keepIn X.K (.ref f) = true) (hb : Binds X.K fd ps []) (tk : Takes X P.W)
    (ha : VA X P (e :: es) fa) (hdb : (x == ("__debug__" : Str)) = false := by decide) (he : starEach (e :: es) X.env = (false, eval e X.env) :: starEach es X.env := by rfl) (hpl : (backTo pos (starEach es X.env)).any (·.1) = false := by rfl) :
    VE X P (.Call (.Name x p) (e :: es) [] pos) (mSeq sem fa) := PE_mono (pe_callS F.ok hr hg hm hk hb (fun σ => passAt tk σ) ha hdb he hpl) fun σ H Q h => by
  obtain ⟨ρ, F0, hR, h⟩ := h
  exact OutA.firstV hR h fun ds vs F1 H1 e1 hv R1 h1 => spV_of F.ar R1.fh hv h1
/-- f() -/
theorem ve_call0 (F : FnV X.prog X.w X.K X.mg X.base k f fd ps sem) (hr : Room k X.A) (hg : Gl X x) (hm : X.mg x = some (.ref f)) (hk : PySem.W.keepIn X.K (.ref f) = true) (hb : Binds X.K fd ps []) (tk : Takes X P.W)
    (hdb : (x == ("__debug__" : Str)) = false := by decide) :
    VE X P (.Call (.Name x p) [] [] pos) (fun _ => sem []) := by
  have hc : PE X (.Call (.Name x p) [] [] pos) (fun σ H Q => SpV X.K X.mg ps.length sem [] H Q (WE P.W σ)) := by
    refine ⟨fun pins s σ H Q I h => ?_⟩
    refine wpAny_Call_Name_kw (ld_glob I hg hm ?_ hdb)
    exact PySem.W.callWith_K0 I.kIn hk (run_fnS (us := []) (E := WE P.W) F.ok hr hb (passAt tk σ) I .nil h)
  exact PE_mono hc fun σ H Q h => by
    obtain ⟨ρ, F0, hR, h⟩ := h
    exact spV_of F.ar hR.fh .nil h
end

/-! ### statements -/
inductive Fl where
  | nx | bk | ct
  | rt (d : PyData)
abbrev RS := R Evn (Fl × Evn)
def OutS (X : Cx) (P : Pm) (D : Ends) (F : Hp) (r : RS) : Prop :=
  r.post (fun p => match p.1 with
    | .nx => ∀ σ' H' F', Same F F' → Rep X.K P p.2 F' σ' H' → D.nx σ' H'
    | .bk => ∀ σ' H' F', Same F F' → Rep X.K P p.2 F' σ' H' → D.bk σ' H'
    | .ct => ∀ σ' H' F', Same F F' → Rep X.K P p.2 F' σ' H' → D.ct σ' H'
    | .rt d => ∀ v σ' H' F', Same F F' → Rep X.K P p.2 F' σ' H' → Vd X.K F' v d → D.rt v H')
  (fun c ρ' => ∀ C σ' H' F', X.mg c = some (.ref C) → Same F F' → Rep X.K P ρ' F' σ' H' → P.W (.ref C) none σ' H')
theorem OutS.step {X : Cx} {P : Pm} {D : Ends} {F F1 : Hp} {r : RS} (h : OutS X P D F r) (e : Same F F1) : OutS X P D F1 r :=
  R.post_mono h (fun p q => by
    obtain ⟨fl, ρ⟩ := p
    cases fl with
    | nx => exact fun σ' H' F' s r => q σ' H' F' (e.trans s) r
    | bk => exact fun σ' H' F' s r => q σ' H' F' (e.trans s) r
    | ct => exact fun σ' H' F' s r => q σ' H' F' (e.trans s) r
    | rt d => exact fun v σ' H' F' s r => q v σ' H' F' (e.trans s) r) (fun c ρ' q C σ' H' F' hm s r => q C σ' H' F' hm (e.trans s) r)
def tS (X : Cx) (P : Pm) (f : Evn → RS) : TS := fun D σ H => ∃ ρ F, Rep X.K P ρ F σ H ∧ OutS X P D F (f ρ)
def VS (X : Cx) (P : Pm) (st : Stmt) (f : Evn → RS) : Prop := PS X st (tS X P f)
def VSs (X : Cx) (P : Pm) (sts : List Stmt) (f : Evn → RS) : Prop := PSs X sts (tS X P f)
theorem PS_mono {X : Cx} {st : Stmt} {t t' : TS} (h : PS X st t) (m : ∀ D σ H, t' D σ H → t D σ H) : PS X st t' := ⟨fun pins s σ H D I q => h.run pins s σ H D I (m D σ H q)⟩
theorem PSs_mono {X : Cx} {st : List Stmt} {t t' : TS} (h : PSs X st t) (m : ∀ D σ H, t' D σ H → t D σ H) : PSs X st t' := ⟨fun pins s σ H D I q => h.run pins s σ H D I (m D σ H q)⟩
/-- an expression's result in a statement -/
def R.at {α : Type} (x : RE α) (ρ : Evn) : R Evn α := match x with
  | .ok a => .ok a
  | .exc c _ => .exc c ρ
  | .bad => .bad
def sNx (ρ : Evn) : RS := .ok (.nx, ρ)
def sThen (f g : Evn → RS) (ρ : Evn) : RS := (f ρ).bind fun p => match p.1 with
  | .nx => g p.2
  | _ => .ok p
def sDrop (f : Evn → RE PyData) (ρ : Evn) : RS := ((f ρ).at ρ).bind fun _ => .ok (.nx, ρ)
def sRet (f : Evn → RE PyData) (ρ : Evn) : RS := ((f ρ).at ρ).bind fun d => .ok (.rt d, ρ)
def sSet (i : Nat) (f : Evn → RE PyData) (ρ : Evn) : RS := ((f ρ).at ρ).bind fun d => .ok (.nx, ρ.set i (some (.val d)))
def sIf (c : Evn → RE Bool) (f g : Evn → RS) (ρ : Evn) : RS := ((c ρ).at ρ).bind fun b => if b then f ρ else g ρ
section
variable {X : Cx} {P : Pm} {pos : Pos} {st : Stmt} {sts : List Stmt} {e : Expr} {f g : Evn → RS} {fe : Evn → RE PyData} {fc : Evn → RE Bool} {D : Ends} {ρ : Evn} {F H : Hp} {σ : Sg}
/-- an expression in a statement is read -/
theorem OutS.first {k : PyData → RS} {Q' : VK} (hR : Rep X.K P ρ F σ H) (h : OutS X P D F (((fe ρ).at ρ).bind k)) (hq : ∀ d v F1 H1, Ext F H F1 H1 → Vd X.K F1 v d → Rep X.K P ρ F1 σ H1 → OutS X P D F1 (k d) → Q' v H1) : tV X P fe σ H Q' := by
  refine ⟨ρ, F, hR, ?_⟩
  cases q : fe ρ with
  | ok d => rw [q] at h; exact fun v H' F' ex hv => hq d v F' H' ex hv (hR.step ex) (OutS.step h ex.ff)
  | exc c u => rw [q] at h; exact fun C H' F' hm ex => h C σ H' F' hm ex.ff (hR.step ex)
  | bad => rw [q] at h; exact h.elim
theorem OutS.firstB {k : Bool → RS} {Q' : Bool → Hp → Prop} (hR : Rep X.K P ρ F σ H) (h : OutS X P D F (((fc ρ).at ρ).bind k)) (hq : ∀ d F1 H1, Ext F H F1 H1 → Rep X.K P ρ F1 σ H1 → OutS X P D F1 (k d) → Q' d H1) : tTV X P fc σ H Q' := by
  refine ⟨ρ, F, hR, ?_⟩
  cases q : fc ρ with
  | ok d => rw [q] at h; exact fun H' F' ex => hq d F' H' ex (hR.step ex) (OutS.step h ex.ff)
  | exc c u => rw [q] at h; exact fun C H' F' hm ex => h C σ H' F' hm ex.ff (hR.step ex)
  | bad => rw [q] at h; exact h.elim
theorem vs_nil : VSs X P [] sNx := PSs_mono pss_nil fun D σ H h => by
  obtain ⟨ρ, F, hR, h⟩ := h
  exact h σ H F (Same.refl _) hR
theorem tS_then {D : Ends} {σ : Sg} {H : Hp} (h : tS X P (sThen f g) D σ H) : tSeq (tS X P f) (tS X P g) D σ H := by
  obtain ⟨ρ, F, hR, h⟩ := h
  refine ⟨ρ, F, hR, ?_⟩
  unfold sThen at h
  cases q : f ρ with
  | ok p =>
    rw [q] at h
    obtain ⟨fl, ρ'⟩ := p
    cases fl with
    | nx => exact fun σ' H' F' s hR' => ⟨ρ', F', hR', OutS.step h s⟩
    | bk => exact h
    | ct => exact h
    | rt d => exact h
  | exc c u => rw [q] at h; exact h
  | bad => rw [q] at h; exact h.elim
theorem vs_cons (h1 : VS X P st f) (h2 : VSs X P sts g) : VSs X P (st :: sts) (sThen f g) := PSs_mono (pss_cons h1 h2) fun D σ H h => tS_then h
theorem vs_one (h1 : VS X P st f) : VSs X P [st] f := pss_one h1
theorem vs_pass : VS X P (.Pass pos) sNx := PS_mono ps_pass fun D σ H h => by
  obtain ⟨ρ, F, hR, h⟩ := h
  exact h σ H F (Same.refl _) hR
theorem vs_break : VS X P (.Break pos) (fun ρ => .ok (.bk, ρ)) := PS_mono ps_break fun D σ H h => by
  obtain ⟨ρ, F, hR, h⟩ := h
  exact h σ H F (Same.refl _) hR
theorem vs_continue : VS X P (.Continue pos) (fun ρ => .ok (.ct, ρ)) := PS_mono ps_continue fun D σ H h => by
  obtain ⟨ρ, F, hR, h⟩ := h
  exact h σ H F (Same.refl _) hR
theorem vs_expr (he : VE X P e fe) (hs : swapsWith e none pos.line X.env = pure false := by rfl) : VS X P (.Expr e pos) (sDrop fe) := PS_mono (ps_expr he hs) fun D σ H h => by
  obtain ⟨ρ, F, hR, h⟩ := h
  exact OutS.first hR h fun d v F1 H1 e1 hv R1 h1 => h1 σ H1 F1 (Same.refl _) R1
theorem vs_ret (he : VE X P e fe) : VS X P (.Return (some e) pos) (sRet fe) := PS_mono (ps_ret he) fun D σ H h => by
  obtain ⟨ρ, F, hR, h⟩ := h
  exact OutS.first hR h fun d v F1 H1 e1 hv R1 h1 => h1 v σ H1 F1 (Same.refl _) R1 hv
theorem vs_retN : VS X P (.Return none pos) (fun ρ => .ok (.rt .none, ρ)) := PS_mono ps_retN fun D σ H h => by
  obtain ⟨ρ, F, hR, h⟩ := h
  exact h _ σ H F (Same.refl _) hR .non
theorem vs_if {c : Expr} {a b : List Stmt} (hc : VT X P c fc) (ha : VSs X P a f) (hb : VSs X P b g) : VS X P (.If c a b pos) (sIf fc f g) := PS_mono (ps_if hc ha hb) fun D σ H h => by
  obtain ⟨ρ, F, hR, h⟩ := h
  refine OutS.firstB hR h fun d F1 H1 e1 R1 h1 => ?_
  cases d with
  | true => rw [if_pos rfl]; exact ⟨ρ, F1, R1, by simpa using h1⟩
  | false => rw [if_neg (by decide)]; exact ⟨ρ, F1, R1, by simpa using h1⟩
theorem vs_set (i : Nat) {x : Str} {pos' : Pos} (hN : X.N.Nodup) (he : VE X P e fe) (hi : X.N[i]? = some x := by rfl) (hx : Loc X.env.scope x := by first | exact Or.inl rfl | exact Or.inr rfl) (hs : swapsWith e (some (.Name x pos')) pos.line X.env = pure false := by rfl)
    (hf : X.fn x = true ∨ X.env.scope.names.lookup x = some .local := by first | exact .inl rfl | exact .inr rfl) : VS X P (.Assign [.Name x pos'] e pos) (sSet i fe) := PS_mono (ps_set hN hi hx he hs hf) fun D σ H h => by
  obtain ⟨ρ, F, hR, h⟩ := h
  exact OutS.first hR h fun d v F1 H1 e1 hv R1 h1 => h1 _ H1 F1 (Same.refl _) (R1.setVal hv)
/-- a name's own list becomes still ahead of a statement -/
theorem vs_freeze (i : Nat) (h : VS X P st f) : VS X P st (fun ρ => f (freeze i ρ)) := PS_mono h fun D σ H h => by
  obtain ⟨ρ, F, hR, h⟩ := h
  obtain ⟨F', s1, R1⟩ := hR.freeze (i := i)
  exact ⟨_, F', R1, OutS.step h s1⟩
/-- an expression whose answer bears no object may read a name's own list -/
def scal : PyData → Bool
  | .none => true | .bool _ => true | .int _ => true | .str _ => true
  | _ => false
def mBor (i : Nat) (f : Evn → RE PyData) (ρ : Evn) : RE PyData := (f (freeze i ρ)).bind fun d => if scal d then .ok d else .bad
theorem Rep.bor {F1 H' F' : Hp} (r : Rep X.K P ρ F σ H) (s : Same F F1) (e : Ext F1 H F' H') : Ext F H F H' := ⟨e.hh, Same.refl _, r.fh.trans e.hh, fun _ _ q => .inl q⟩
theorem ve_bor (i : Nat) (h : VE X P e fe) : VE X P e (mBor i fe) := PE_mono h fun σ H Q h => by
  obtain ⟨ρ, F, hR, h⟩ := h
  obtain ⟨F1, s1, R1⟩ := hR.freeze (i := i)
  refine ⟨_, F1, R1, ?_⟩
  unfold mBor at h
  cases q : fe (freeze i ρ) with
  | ok d =>
    rw [q] at h
    intro v H' F' ex hv
    have h' : Out X P σ Q F H (if scal d = true then .ok d else .bad) := h
    by_cases hs : scal d = true
    · rw [if_pos hs] at h'
      refine h' v H' F (hR.bor s1 ex) ?_
      cases hv with
      | non => exact .non
      | bl b => exact .bl b
      | int i => exact .int i
      | str x hx => exact .str x hx
      | lst _ _ _ => cases hs
      | tup _ _ _ => cases hs
    · rw [if_neg hs] at h'; exact h'.elim
  | exc c u =>
    rw [q] at h
    exact fun C H' F' hm ex => h C H' F hm (hR.bor s1 ex)
  | bad => rw [q] at h; exact h.elim
def mBorB (i : Nat) (f : Evn → RE Bool) (ρ : Evn) : RE Bool := f (freeze i ρ)
theorem vt_bor (i : Nat) (h : VT X P e fc) : VT X P e (mBorB i fc) := PT_mono h fun σ H Q h => by
  obtain ⟨ρ, F, hR, h⟩ := h
  obtain ⟨F1, s1, R1⟩ := hR.freeze (i := i)
  refine ⟨_, F1, R1, ?_⟩
  exact R.post_mono h (fun b q H' F' ex => q H' F (hR.bor s1 ex)) (fun c _ q C H' F' hm ex => q C H' F hm (hR.bor s1 ex))
end

/-! ### a body -/
def startE (N : Nat) (ds : List PyData) : Evn := ds.map (fun d => some (.val d)) ++ List.replicate (N - ds.length) none
def bodyOut (r : RS) : RE PyData := match r with
  | .ok (.rt d, _) => .ok d
  | .ok (.nx, _) => .ok .none
  | .ok _ => .bad
  | .exc c _ => .exc c ()
  | .bad => .bad
/-- what a def's body means: n parameters, N names -/
def fnM (n N : Nat) (body : Evn → RS) (ds : List PyData) : RE PyData := if ds.length = n then bodyOut (body (startE N ds)) else .bad
theorem fnM_ar {n N : Nat} {body : Evn → RS} {ds : List PyData} (h : ds.length ≠ n) : fnM n N body ds = .bad := if_neg h
theorem startE_get {N : Nat} {ds : List PyData} {i : Nat} {c : Cel} (h : (startE N ds)[i]? = some (some c)) : ∃ d, c = .val d ∧ ds[i]? = some d := by
  unfold startE at h
  by_cases hi : i < (ds.map fun d => (some (Cel.val d) : Option Cel)).length
  · rw [List.getElem?_append_left hi, List.getElem?_map] at h
    cases q : ds[i]? with
    | none => rw [q] at h; cases h
    | some d => rw [q] at h; cases h; exact ⟨d, rfl, rfl⟩
  · rw [List.getElem?_append_right (by omega)] at h
    have := List.mem_of_getElem? h
    rw [List.mem_replicate] at this
    cases this.2
theorem rep_start {K : PySem.W.Frag} {N : List Str} {vs : List V} {ds : List PyData} {F H : Hp} {W : WX} (sf : Same F H) (hv : VdAll K F vs ds) : Rep K ⟨H, F, W, none⟩ (startE N.length ds) F (L2.start N vs) H := by
  have hl := hv.length
  refine ⟨?_, ⟨Same.refl _, Same.refl _, sf, fun _ _ e => .inl e⟩, fun i c h => ?_, fun i j a es es' _ h1 => ?_⟩
  · unfold startE L2.start
    simp only [List.length_append, List.length_map, List.length_replicate]
    omega
  · obtain ⟨d, rfl, hd⟩ := startE_get h
    obtain ⟨v, h1, h2⟩ := hv.get hd
    refine ⟨v, ?_, h2⟩
    unfold L2.start
    have hi : i < vs.length := (List.getElem?_eq_some_iff.mp h1).1
    rw [List.getElem?_append_left (by rw [List.length_map]; exact hi), List.getElem?_map, h1]
    rfl
  · obtain ⟨d, e, _⟩ := startE_get h1
    cases e
/-- a def's wish -/
abbrev wE (E : XK) : WX := fun cls d _ H => E cls d H
section
variable {P : Program} {w : World} {K : PySem.W.Frag} {mg : Str → Option Value} {base : Heap}
/-- THE RULE for a def: its body's meaning -/
theorem FnV.of {x qual : Str} {st : Stmt} {f : Addr} {fd : FuncData} {N ps : List Str} {k : Nat} {body : Evn → RS} (F : Fun K x qual st f fd) (S : FnScope N ps (defScope st))
    (hbody : ∀ (cdv : Value) (A : Around) (outer : List Env) (s : Shared) (H : Hp) (E : XK) (F0 : Hp), Room k (A.deeper (envOfC qual (defScope st) s.heap.objs.size f cdv)) →
      VSs (cxOf (L2.CX P w) P w K mg base N qual (defScope st) f cdv A outer s H E) ⟨H, F0, wE E, none⟩ (defBody st) body) :
    FnV P w K mg base (k + 1) f fd ps (fnM ps.length N.length body) := by
  refine ⟨F.okX S (fun vs H Q E h => ?_) (fun cdv A outer s H vs Q E hr h => ?_), fun ds h => fnM_ar h⟩
  · obtain ⟨F0, ds, _, hv, hl, _⟩ := h
    rw [hv.length, hl]
  · obtain ⟨F0, ds, sf, hv, hl, hp⟩ := h
    refine ⟨_, hbody cdv A outer s H E F0 hr, startE N.length ds, F0, rep_start sf hv, ?_⟩
    unfold fnM at hp
    rw [if_pos hl] at hp
    unfold OutS
    cases q : body (startE N.length ds) with
    | ok p =>
      rw [q] at hp
      obtain ⟨fl, ρ'⟩ := p
      cases fl with
      | nx => exact fun σ' H' F' _ r => hp _ _ F' r.ext .non
      | bk => exact hp.elim
      | ct => exact hp.elim
      | rt d => exact fun v σ' H' F' _ r hv' => hp v H' F' r.ext hv'
    | exc c ρ' =>
      rw [q] at hp
      exact fun C σ' H' F' hm _ r => hp C H' F' hm r.ext
    | bad => rw [q] at hp; exact hp.elim
theorem takesD {N : List Str} {qual : Str} {scope : Scope} {f : Addr} {cdv : Value} {A : Around} {outer : List Env} {s : Shared} {H : Hp} {E : XK} : Takes (cxOf (L2.CX P w) P w K mg base N qual scope f cdv A outer s H E) (wE E) := takes_of rfl rfl rfl rfl
end
end PV
end
section
set_option Elab.async false
set_option linter.all false
set_option maxRecDepth 100000
set_option maxHeartbeats 4000000
namespace PV
open PySem PySem.Spec PyProof.Rows L2 RT

/-! ### targets -/
/-- σ' is σ but for the slots is -/
def But (js : List Nat) (σ σ' : Sg) : Prop := ∀ vs : List Nat, (∀ i ∈ js, i ∈ vs) → L2.wipe σ' vs = L2.wipe σ vs
theorem wipe_set {σ : Sg} {i : Nat} {x : Option V} : ∀ {vs : List Nat}, i ∈ vs → L2.wipe (σ.set i x) vs = L2.wipe σ vs
  | v :: vs, h => by
    unfold L2.wipe
    by_cases hv : i ∈ vs
    · rw [wipe_set hv]
    · have e : i = v := by rcases List.mem_cons.mp h with e | e; exact e; exact absurd e hv
      subst e
      have q : ∀ ws : List Nat, (L2.wipe (σ.set i x) ws).set i none = (L2.wipe σ ws).set i none := fun ws => by
        induction ws with
        | nil => show (σ.set i x).set i none = σ.set i none; rw [List.set_set]
        | cons w ws ih =>
          show ((L2.wipe (σ.set i x) ws).set w none).set i none = ((L2.wipe σ ws).set w none).set i none
          by_cases hw : w = i
          · subst hw; rw [List.set_set, List.set_set]; exact ih
          · rw [List.set_comm _ _ hw, List.set_comm _ _ hw, ih]
      exact q vs
theorem But.refl (js : List Nat) (σ : Sg) : But js σ σ := fun _ _ => rfl
theorem But.set {i : Nat} {σ : Sg} {x : Option V} : But [i] σ (σ.set i x) := fun vs h => wipe_set (h i List.mem_cons_self)
theorem But.trans {a b : List Nat} {σ σ1 σ2 : Sg} (h : But a σ σ1) (k : But b σ1 σ2) : But (a ++ b) σ σ2 := fun vs m => (k vs fun i hi => m i (List.mem_append_right _ hi)).trans (h vs fun i hi => m i (List.mem_append_left _ hi))
def tG (X : Cx) (P : Pm) (m : PyData → Evn → Option Evn) (js : List Nat) : TG := fun v σ H Q => ∃ ρ F d ρ', Rep X.K P ρ F σ H ∧ Vd X.K F v d ∧ m d ρ = some ρ' ∧ ∀ σ', Rep X.K P ρ' F σ' H → But js σ σ' → Q σ' H
def tGs (X : Cx) (P : Pm) (m : List PyData → Evn → Option Evn) (js : List Nat) : TGs := fun vs σ H Q => ∃ ρ F ds ρ', Rep X.K P ρ F σ H ∧ VdAll X.K F vs ds ∧ m ds ρ = some ρ' ∧ ∀ σ', Rep X.K P ρ' F σ' H → But js σ σ' → Q σ' H
def VG (X : Cx) (P : Pm) (tg : Expr) (m : PyData → Evn → Option Evn) (js : List Nat) : Prop := PG X tg (tG X P m js)
def VGs (X : Cx) (P : Pm) (tgs : List Expr) (m : List PyData → Evn → Option Evn) (js : List Nat) : Prop := PGs X tgs (tGs X P m js)
theorem PG_mono {X : Cx} {e : Expr} {t t' : TG} (h : PG X e t) (m : ∀ v σ H Q, t' v σ H Q → t v σ H Q) : PG X e t' := ⟨fun pins s σ H v u Q I r q => h.run pins s σ H v u Q I r (m v σ H Q q)⟩
theorem PGs_mono {X : Cx} {e : List Expr} {t t' : TGs} (h : PGs X e t) (m : ∀ v σ H Q, t' v σ H Q → t v σ H Q) : PGs X e t' := ⟨fun pins s σ H v u Q I r q => h.run pins s σ H v u Q I r (m v σ H Q q)⟩
def gN (i : Nat) (d : PyData) (ρ : Evn) : Option Evn := some (ρ.set i (some (.val d)))
def gE (ds : List PyData) (ρ : Evn) : Option Evn := match ds with
  | [] => some ρ
  | _ => none
def gC (m : PyData → Evn → Option Evn) (ms : List PyData → Evn → Option Evn) (ds : List PyData) (ρ : Evn) : Option Evn := match ds with
  | d :: r => (m d ρ).bind (ms r)
  | _ => none
def gT (n : Nat) (ms : List PyData → Evn → Option Evn) (d : PyData) (ρ : Evn) : Option Evn := match d with
  | .tuple ds => if ds.length = n then ms ds ρ else none
  | .list ds => if ds.length = n then ms ds ρ else none
  | _ => none
def oS {α : Type} : Option α → R Evn α
  | some a => .ok a
  | none => .bad
section
variable {X : Cx} {P : Pm} {pos : Pos} {e : Expr} {es : List Expr} {m : PyData → Evn → Option Evn} {ms : List PyData → Evn → Option Evn} {fe : Evn → RE PyData}
theorem vg_name (i : Nat) {x : Str} (hN : X.N.Nodup) (hi : X.N[i]? = some x := by rfl) (hx : Loc X.env.scope x := by first | exact Or.inl rfl | exact Or.inr rfl) (hf : X.fn x = true ∨ X.env.scope.names.lookup x = some .local := by first | exact .inl rfl | exact .inr rfl) : VG X P (.Name x pos) (gN i) [i] :=
  PG_mono (pg_name hN hi hx hf) fun v σ H Q h => by
    obtain ⟨ρ, F, d, ρ', hR, hv, he, h⟩ := h
    cases he
    exact h _ (hR.setVal hv) But.set
theorem vgs_nil : VGs X P [] gE [] := PGs_mono pgs_nil fun vs σ H Q h => by
  obtain ⟨ρ, F, ds, ρ', hR, hv, he, h⟩ := h
  cases hv with
  | nil => cases he; exact ⟨rfl, h _ hR (But.refl _ _)⟩
  | cons _ _ => cases he
theorem bind_some {α β : Type} {o : Option α} {k : α → Option β} {b : β} (h : o.bind k = some b) : ∃ a, o = some a ∧ k a = some b := by
  cases o with
  | none => cases h
  | some a => exact ⟨a, rfl, h⟩
theorem vgs_cons {js js' : List Nat} (h1 : VG X P e m js) (h2 : VGs X P es ms js') (hs : (assignEach (e :: es) X.env).map (·.2) = assign e X.env :: (assignEach es X.env).map (·.2) := by rfl) : VGs X P (e :: es) (gC m ms) (js ++ js') := PGs_mono (pgs_cons h1 h2 hs) fun vs σ H Q h => by
  obtain ⟨ρ, F, ds, ρ', hR, hv, he, h⟩ := h
  cases hv with
  | nil => cases he
  | @cons v vs d ds h1 h2 =>
    obtain ⟨ρ1, e1, e2⟩ := bind_some he
    exact ⟨v, vs, rfl, ρ, F, d, ρ1, hR, h1, e1, fun σ' r' b1 => ⟨ρ1, F, ds, ρ', r', h2, e2, fun σ2 r2 b2 => h σ2 r2 (b1.trans b2)⟩⟩
theorem PG_or {t t' : TG} (h1 : PG X e t) (h2 : PG X e t') : PG X e (fun v σ H Q => t v σ H Q ∨ t' v σ H Q) := ⟨fun pins s σ H v u Q I r q => q.elim (h1.run pins s σ H v u Q I r) (h2.run pins s σ H v u Q I r)⟩
theorem if_some {α : Type} {p : Prop} [Decidable p] {o : Option α} {r : α} (h : (if p then o else none) = some r) : p ∧ o = some r := by
  by_cases hp : p
  · rw [if_pos hp] at h; exact ⟨hp, h⟩
  · rw [if_neg hp] at h; cases h
theorem vg_tup {k n : Nat} {js : List Nat} (hc : X.calm = true) (h : VGs X P es ms js) (hn : (assignEach es X.env).length = n := by rfl) (hst : (assignEach es X.env).findIdx? (·.1) = none := by rfl) : VG X P (.Tuple es k pos) (gT n ms) js :=
  PG_mono (PG_or (pg_tup hc h hn hst) (pg_lst hc h hn hst)) fun v σ H Q h => by
    obtain ⟨ρ, F, d, ρ', hR, hv, he, h⟩ := h
    cases hv with
    | @lst a xs ds hs hz ha =>
      obtain ⟨hl, e⟩ := if_some he
      exact .inr ⟨a, xs, rfl, hR.fh.seq hs, by rw [ha.length]; exact hl, ρ, F, ds, ρ', hR, ha, e, h⟩
    | @tup a xs ds hs hz ha =>
      obtain ⟨hl, e⟩ := if_some he
      exact .inl ⟨a, xs, rfl, same_sqT hR.fh hs, by rw [ha.length]; exact hl, ρ, F, ds, ρ', hR, ha, e, h⟩
    | _ => cases he
def sAsg (f : Evn → RE PyData) (m : PyData → Evn → Option Evn) (ρ : Evn) : RS := ((f ρ).at ρ).bind fun d => (oS (m d ρ)).bind fun ρ' => .ok (.nx, ρ')
theorem vs_asg {tg : Expr} {js : List Nat} (he : VE X P e fe) (hg : VG X P tg m js) (hs : swapsWithSole [tg] e pos.line X.env = pure false := by rfl) (hw : swappedStores [tg] e X.env = pure none := by rfl)
    (h1 : (assignEach [tg] X.env).map (·.2) = [assign tg X.env] := by rfl) : VS X P (.Assign [tg] e pos) (sAsg fe m) := PS_mono (ps_asg he hg hs hw h1) fun D σ H h => by
  obtain ⟨ρ, F, hR, h⟩ := h
  refine OutS.first hR h fun d v F1 H1 e1 hv R1 h1 => ?_
  cases q : m d ρ with
  | some ρ' => rw [q] at h1; exact ⟨ρ, F1, d, ρ', R1, hv, q, fun σ' r _ => h1 σ' H1 F1 (Same.refl _) r⟩
  | none => rw [q] at h1; exact h1.elim
/-- a, b = x, y, plain local names -/
def sPar (i j : Nat) (fa : Evn → RE (List PyData)) (ρ : Evn) : RS := ((fa ρ).at ρ).bind fun ds => match ds with
  | [d, e] => .ok (.nx, (ρ.set i (some (.val d))).set j (some (.val e)))
  | _ => .bad
theorem OutS.firstA {D : Ends} {ρ : Evn} {F H : Hp} {σ : Sg} {fa : Evn → RE (List PyData)} {k : List PyData → RS} {Q' : List V → Hp → Prop} (hR : Rep X.K P ρ F σ H) (h : OutS X P D F (((fa ρ).at ρ).bind k))
    (hq : ∀ d v F1 H1, Ext F H F1 H1 → VdAll X.K F1 v d → Rep X.K P ρ F1 σ H1 → OutS X P D F1 (k d) → Q' v H1) : tAV X P fa σ H Q' := by
  refine ⟨ρ, F, hR, ?_⟩
  cases q : fa ρ with
  | ok d => rw [q] at h; exact fun v H' F' ex hv => hq d v F' H' ex hv (hR.step ex) (OutS.step h ex.ff)
  | exc c u => rw [q] at h; exact fun C H' F' hm ex => h C σ H' F' hm ex.ff (hR.step ex)
  | bad => rw [q] at h; exact h.elim
theorem vs_par (i j : Nat) {x y : Str} {a b : Expr} {fa : Evn → RE (List PyData)} {px py pt : Pos} {kt k2 : Nat} {pt2 : Pos} (hc : X.calm = true) (hN : X.N.Nodup) (ha : VA X P [a, b] fa) (hi : X.N[i]? = some x := by rfl) (hj : X.N[j]? = some y := by rfl) (hij : i ≠ j := by decide)
    (hx : X.env.scope.names.lookup x = some .local := by rfl) (hy : X.env.scope.names.lookup y = some .local := by rfl)
    (hw : swappedStores [.Tuple [.Name x px, .Name y py] kt pt] (.Tuple [a, b] k2 pt2) X.env = pure (some [x, y]) := by rfl)
    (hs : swapsWithSole [.Tuple [.Name x px, .Name y py] kt pt] (.Tuple [a, b] k2 pt2) pos.line X.env = pure false := by rfl) :
    VS X P (.Assign [.Tuple [.Name x px, .Name y py] kt pt] (.Tuple [a, b] k2 pt2) pos) (sPar i j fa) := PS_mono (ps_par hc hN hi hj hij hx hy ha hw hs) fun D σ H h => by
  obtain ⟨ρ, F, hR, h⟩ := h
  refine OutS.firstA hR h fun ds vs F1 H1 e1 hv R1 h1 => ?_
  match ds, hv, h1 with
  | [d, e], hv, h1 =>
    obtain ⟨v, u, rfl, k1, k2⟩ := vd2 hv
    exact ⟨v, u, rfl, h1 _ H1 F1 (Same.refl _) ((R1.setVal k1).setVal k2)⟩
  | [], _, h1 => exact h1.elim
  | [_], _, h1 => exact h1.elim
  | _ :: _ :: _ :: _, _, h1 => exact h1.elim
end

/-! ### what is walked -/
/-- at each turn the walk yields the datum -/
structure WalkOk (K : PySem.W.Frag) (J : It) (F : Hp) (ds : List PyData) : Prop where
  go : ∀ i F1 H, Same F F1 → Same F1 H → i < ds.length → J.go i H
  yld : ∀ i d F1 H x H', Same F F1 → Same F1 H → ds[i]? = some d → J.yld i H x H' → ∃ F', Ext F1 H F' H' ∧ Vd K F' x d
  stop : ∀ i F1 H, Same F F1 → Same F1 H → ds.length ≤ i → J.stop i H
def tIV (X : Cx) (P : Pm) (g : Evn → RE (List PyData)) : TI := fun σ H Rr => ∃ ρ F, Rep X.K P ρ F σ H ∧
  (g ρ).post (fun ds => ∀ J H' F', Ext F H F' H' → WalkOk X.K J F' ds → Rr J H') (fun c _ => ∀ C H' F', X.mg c = some (.ref C) → Ext F H F' H' → P.W (.ref C) none σ H')
def VI (X : Cx) (P : Pm) (tg e : Expr) (g : Evn → RE (List PyData)) : Prop := PI X tg e (tIV X P g)
theorem PI_mono {X : Cx} {tg e : Expr} {t t' : TI} (h : PI X tg e t) (m : ∀ σ H R, t' σ H R → t σ H R) : PI X tg e t' := ⟨fun pins s σ H R I q => h.run pins s σ H R I (m σ H R q)⟩
section
variable {X : Cx} {P : Pm} {pos p : Pos} {tg e : Expr} {fe : Evn → RE PyData} {fa : Evn → RE (List PyData)}
theorem walk_list {F : Hp} {a : Addr} {xs : List V} {ds : List PyData} (hs : SqL X.K F a xs) (ha : VdAll X.K F xs ds) : WalkOk X.K (Itl X.K a) F ds where
  go := fun i F1 H s1 s2 hi => by
    obtain ⟨x, hx, _⟩ := ha.get (List.getElem?_eq_getElem hi)
    exact ⟨xs, x, s2.seq (s1.seq hs), hx⟩
  yld := fun i d F1 H x H' s1 s2 hd ⟨e, hy⟩ => by
    subst e
    obtain ⟨x', hx, hv⟩ := ha.get hd
    have := hy xs (s2.seq (s1.seq hs))
    rw [hx] at this
    cases this
    exact ⟨F1, Ext.refl s2, Vd.mono s1 d x hv⟩
  stop := fun i F1 H s1 s2 hi => ⟨xs, s2.seq (s1.seq hs), by rw [ha.length]; exact hi⟩
theorem walk_tup {F : Hp} {a : Addr} {xs : List V} {ds : List PyData} (hs : SqT X.K F a xs) (ha : VdAll X.K F xs ds) : WalkOk X.K (Itt X.K a) F ds where
  go := fun i F1 H s1 s2 hi => by
    obtain ⟨x, hx, _⟩ := ha.get (List.getElem?_eq_getElem hi)
    exact ⟨xs, x, same_sqT s2 (same_sqT s1 hs), hx⟩
  yld := fun i d F1 H x H' s1 s2 hd ⟨e, hy⟩ => by
    subst e
    obtain ⟨x', hx, hv⟩ := ha.get hd
    have := hy xs (same_sqT s2 (same_sqT s1 hs))
    rw [hx] at this
    cases this
    exact ⟨F1, Ext.refl s2, Vd.mono s1 d x hv⟩
  stop := fun i F1 H s1 s2 hi => ⟨xs, same_sqT s2 (same_sqT s1 hs), by rw [ha.length]; exact hi⟩
def chars (x : Str) : List PyData := x.cps.toList.map fun c => .str ⟨#[c]⟩
theorem walk_str {F : Hp} {x : Str} (hx : PyData.strOk x = true) : WalkOk X.K (Its x) F (chars x) where
  go := fun i F1 H s1 s2 hi => by
    show i < x.cps.size
    unfold chars at hi
    rw [List.length_map, Array.length_toList] at hi
    exact hi
  yld := fun i d F1 H v H' s1 s2 hd ⟨e, c, hc, hv⟩ => by
    subst e hv
    unfold chars at hd
    have hc' : x.cps.toList[i]? = some c := by rw [Array.getElem?_toList]; exact hc
    rw [List.getElem?_map, hc'] at hd
    cases hd
    refine ⟨F1, Ext.refl s2, .str _ ?_⟩
    exact strOk_at hx (i := (i : Int)) (atI_nat hc')
  stop := fun i F1 H s1 s2 hi => by
    show x.cps.size ≤ i
    unfold chars at hi
    rw [List.length_map, Array.length_toList] at hi
    exact hi
def itemsOf : PyData → Option (List PyData)
  | .list ds => some ds
  | .tuple ds => some ds
  | .str x => some (chars x)
  | _ => none
def mItems (f : Evn → RE PyData) (ρ : Evn) : RE (List PyData) := (f ρ).bind fun d => ofO (itemsOf d)
theorem PI_or3 {t t' t'' : TI} (h1 : PI X tg e t) (h2 : PI X tg e t') (h3 : PI X tg e t'') : PI X tg e (fun σ H R => t σ H R ∨ t' σ H R ∨ t'' σ H R) :=
  ⟨fun pins s σ H R I q => by rcases q with q | q | q; exact h1.run pins s σ H R I q; exact h2.run pins s σ H R I q; exact h3.run pins s σ H R I q⟩
theorem vi_items (he : VE X P e fe) : VI X P tg e (mItems fe) := PI_mono (PI_or3 (pi_list he) (pi_tup he) (pi_str he)) fun σ H Rr h => by
  obtain ⟨ρ, F, hR, h⟩ := h
  unfold mItems at h
  cases q : fe ρ with
  | bad => rw [q] at h; exact h.elim
  | exc c u =>
    rw [q] at h
    refine .inl ⟨ρ, F, hR, ?_⟩
    rw [q]; exact h
  | ok d =>
    rw [q] at h
    have h' : PV.R.post (ofO (itemsOf d)) (fun ds => ∀ J H' F', Ext F H F' H' → WalkOk X.K J F' ds → Rr J H') (fun c _ => ∀ C H' F', X.mg c = some (.ref C) → Ext F H F' H' → P.W (.ref C) none σ H') := h
    cases d with
    | list ds =>
      refine .inl ⟨ρ, F, hR, ?_⟩
      rw [q]
      intro v H' F' ex hv
      cases hv with
      | lst hs hz ha => exact ⟨_, rfl, ⟨_, (hR.step ex).fh.seq hs⟩, h' _ H' F' ex (walk_list hs ha)⟩
    | tuple ds =>
      refine .inr (.inl ⟨ρ, F, hR, ?_⟩)
      rw [q]
      intro v H' F' ex hv
      cases hv with
      | tup hs hz ha => exact ⟨_, rfl, ⟨_, same_sqT (hR.step ex).fh hs⟩, h' _ H' F' ex (walk_tup hs ha)⟩
    | str x =>
      refine .inr (.inr ⟨ρ, F, hR, ?_⟩)
      rw [q]
      intro v H' F' ex hv
      cases hv with
      | str _ hx => exact ⟨x, rfl, h' _ H' F' ex (walk_str hx)⟩
    | _ => exact h'.elim
/-! range -/
def rangeL (lo : Int) (n : Nat) : List PyData := (List.range n).map fun (i : Nat) => .int (lo + i)
theorem rangeL_len (lo : Int) (n : Nat) : (rangeL lo n).length = n := by unfold rangeL; rw [List.length_map, List.length_range]
theorem walk_range {F : Hp} (lo : Int) (n : Nat) : WalkOk X.K (Itr lo n) F (rangeL lo n) where
  go := fun i F1 H s1 s2 hi => by rw [rangeL_len] at hi; exact hi
  yld := fun i d F1 H x H' s1 s2 hd ⟨e, hx⟩ => by
    subst e hx
    unfold rangeL at hd
    rw [List.getElem?_map] at hd
    cases q : (List.range n)[i]? with
    | none => rw [q] at hd; cases hd
    | some j =>
      rw [q] at hd
      cases hd
      obtain ⟨h1, h2⟩ := List.getElem?_eq_some_iff.mp q
      rw [List.getElem_range] at h2
      subst h2
      exact ⟨F1, Ext.refl s2, .int _⟩
  stop := fun i F1 H s1 s2 hi => by rw [rangeL_len] at hi; exact hi
def r62 (i : Int) : Prop := -(2 ^ 62) ≤ i ∧ i < 2 ^ 62
instance (i : Int) : Decidable (r62 i) := by unfold r62; exact inferInstance
def rng1 : List PyData → Option (List PyData)
  | [.int j] => if r62 j then some (rangeL 0 j.toNat) else none
  | _ => none
def rng2 : List PyData → Option (List PyData)
  | [.int i, .int j] => if r62 i ∧ r62 j then some (rangeL i (j - i).toNat) else none
  | _ => none
/-- a walk of what a call gives -/
def mWk (g : List PyData → Option (List PyData)) (fa : Evn → RE (List PyData)) (ρ : Evn) : RE (List PyData) := (fa ρ).bind fun ds => ofO (g ds)
theorem firstI {σ : Sg} {H F : Hp} {ρ : Evn} {Rr : It → Hp → Prop} {g : List PyData → Option (List PyData)} {Q' : List V → Hp → Prop} (hR : Rep X.K P ρ F σ H)
    (h : (mWk g fa ρ).post (fun ds => ∀ J H' F', Ext F H F' H' → WalkOk X.K J F' ds → Rr J H') (fun c _ => ∀ C H' F', X.mg c = some (.ref C) → Ext F H F' H' → P.W (.ref C) none σ H'))
    (hq : ∀ d ds v F1 H1, VdAll X.K F1 v d → Rep X.K P ρ F1 σ H1 → g d = some ds → (∀ J H' F', Ext F1 H1 F' H' → WalkOk X.K J F' ds → Rr J H') → Q' v H1) : tAV X P fa σ H Q' := by
  refine ⟨ρ, F, hR, ?_⟩
  refine R.post_mono (R.post_bind h) (fun d q v H' F' e hv => ?_) (fun c _ q => q)
  cases e2 : g d with
  | none => rw [e2] at q; exact q.elim
  | some ds => rw [e2] at q; exact hq d ds v F' H' hv (hR.step e) e2 fun J H2 F2 e3 => q J H2 F2 (e.trans e3)
theorem vi_range1 {a : Expr} (hg : Gl X "range") (hm : X.mg "range" = none) (ha : VA X P [a] fa) (hs : starEach [a] X.env = [(false, eval a X.env)] := by rfl) : VI X P tg (.Call (.Name "range" p) [a] [] pos) (mWk rng1 fa) := PI_mono (pi_range1 hg hm ha hs) fun σ H Rr h => by
  obtain ⟨ρ, F, hR, h⟩ := h
  refine firstI hR h fun d ds vs F1 H1 hv R1 hd h1 => ?_
  unfold rng1 at hd
  split at hd
  · obtain ⟨hp, rfl⟩ := some_of_if hd
    obtain ⟨v, rfl, k1⟩ := vd1 hv
    cases k1
    exact ⟨_, rfl, hp.1, hp.2, h1 _ H1 F1 (Ext.refl R1.fh) (walk_range 0 _)⟩
  · cases hd
theorem vi_range2 {a b : Expr} (hg : Gl X "range") (hm : X.mg "range" = none) (ha : VA X P [a, b] fa) (hs : starEach [a, b] X.env = [(false, eval a X.env), (false, eval b X.env)] := by rfl) (hs2 : starEach [b] X.env = [(false, eval b X.env)] := by rfl) :
    VI X P tg (.Call (.Name "range" p) [a, b] [] pos) (mWk rng2 fa) := PI_mono (pi_range2 hg hm ha hs hs2) fun σ H Rr h => by
  obtain ⟨ρ, F, hR, h⟩ := h
  refine firstI hR h fun d ds vs F1 H1 hv R1 hd h1 => ?_
  unfold rng2 at hd
  split at hd
  · obtain ⟨hp, rfl⟩ := some_of_if hd
    obtain ⟨v, u, rfl, k1, k2⟩ := vd2 hv
    cases k1
    cases k2
    exact ⟨_, _, rfl, ⟨hp.1.1, hp.1.2, hp.2.1, hp.2.2⟩, h1 _ H1 F1 (Ext.refl R1.fh) (walk_range _ _)⟩
  · cases hd
/-! enumerate, zip, reversed -/
def enumL (k : Nat) : List PyData → List PyData
  | [] => []
  | d :: r => .tuple [.int (k : Nat), d] :: enumL (k + 1) r
theorem enumL_get : ∀ (ds : List PyData) (k i : Nat), (enumL k ds)[i]? = (ds[i]?).map fun d => .tuple [.int ((k + i : Nat) : Int), d]
  | [], k, i => by simp [enumL]
  | d :: r, k, 0 => by simp [enumL]
  | d :: r, k, i + 1 => by
    simp only [enumL, List.getElem?_cons_succ, enumL_get r (k + 1) i]
    rw [show k + 1 + i = k + (i + 1) from by omega]
theorem enumL_len : ∀ (ds : List PyData) (k : Nat), (enumL k ds).length = ds.length
  | [], _ => rfl
  | d :: r, k => by simp only [enumL, List.length_cons, enumL_len r]
theorem two_line : 2 ≤ sizeLine := by rw [sizeLine_eq]; omega
theorem new_pair {F H : Hp} {T : Addr} {x y : V} {d e : PyData} (sf : Same F H) (n : H T = none) (h1 : Vd X.K F x d) (h2 : Vd X.K F y e) : ∃ F', Ext F H F' (upd H T (.tup [x, y])) ∧ Vd X.K F' (.ref T) (.tuple [d, e]) :=
  ⟨upd F T (.tup [x, y]), Ext.new sf n, .tup (SqT.of upd_same) two_line (VdAll.mono (same_upd (sf.free n)) _ _ (.cons h1 (.cons h2 .nil)))⟩
theorem walk_enum {F : Hp} {a : Addr} {xs : List V} {ds : List PyData} (hs : SqL X.K F a xs) (ha : VdAll X.K F xs ds) : WalkOk X.K (Ite X.K a) F (enumL 0 ds) where
  go := fun i F1 H s1 s2 hi => by
    rw [enumL_len] at hi
    obtain ⟨x, hx, _⟩ := ha.get (List.getElem?_eq_getElem hi)
    exact ⟨xs, x, s2.seq (s1.seq hs), hx⟩
  yld := fun i d F1 H x H' s1 s2 hd ⟨T, y, e1, n, e2, hy⟩ => by
    subst e1 e2
    rw [enumL_get] at hd
    cases q : ds[i]? with
    | none => rw [q] at hd; cases hd
    | some d' =>
      rw [q] at hd
      cases hd
      obtain ⟨x', hx, hv⟩ := ha.get q
      have := hy xs (s2.seq (s1.seq hs))
      rw [hx] at this
      cases this
      rw [Nat.zero_add]
      exact new_pair s2 n (.int _) (Vd.mono s1 d' _ hv)
  stop := fun i F1 H s1 s2 hi => ⟨xs, s2.seq (s1.seq hs), by rw [ha.length, ← enumL_len ds 0]; exact hi⟩
def enum1 : List PyData → Option (List PyData)
  | [.list ds] => some (enumL 0 ds)
  | _ => none
theorem vi_enum {e : Expr} {elts : List Expr} {kk : Nat} {tpos : Pos} (hg : Gl X "enumerate") (hm : X.mg "enumerate" = none) (ha : VA X P [e] fa) (hs : starEach [e] X.env = [(false, eval e X.env)] := by rfl) :
    VI X P (.Tuple elts kk tpos) (.Call (.Name "enumerate" p) [e] [] pos) (mWk enum1 fa) := PI_mono (pi_enum hg hm ha hs) fun σ H Rr h => by
  obtain ⟨ρ, F, hR, h⟩ := h
  refine firstI hR h fun d ds vs F1 H1 hv R1 hd h1 => ?_
  unfold enum1 at hd
  split at hd
  · cases hd
    obtain ⟨v, rfl, k1⟩ := vd1 hv
    cases k1 with
    | lst hs hz ha => exact ⟨_, _, rfl, R1.fh.seq hs, h1 _ H1 F1 (Ext.refl R1.fh) (walk_enum hs ha)⟩
  · cases hd
def zipL : List PyData → List PyData → List PyData
  | d :: r, e :: s => .tuple [d, e] :: zipL r s
  | _, _ => []
theorem zipL_get : ∀ (ds es : List PyData) (i : Nat) (z : PyData), (zipL ds es)[i]? = some z → ∃ d e, ds[i]? = some d ∧ es[i]? = some e ∧ z = .tuple [d, e]
  | [], _, i, z, h => by simp [zipL] at h
  | d :: r, [], i, z, h => by simp [zipL] at h
  | d :: r, e :: s, 0, z, h => by simp only [zipL, List.getElem?_cons_zero, Option.some.injEq] at h; exact ⟨d, e, rfl, rfl, h.symm⟩
  | d :: r, e :: s, i + 1, z, h => by
    simp only [zipL, List.getElem?_cons_succ] at h
    obtain ⟨d', e', h1, h2, h3⟩ := zipL_get r s i z h
    exact ⟨d', e', by simpa using h1, by simpa using h2, h3⟩
theorem zipL_len : ∀ (ds es : List PyData), (zipL ds es).length = min ds.length es.length
  | [], _ => by simp [zipL]
  | d :: r, [] => by simp [zipL]
  | d :: r, e :: s => by simp only [zipL, List.length_cons, zipL_len r s]; omega
theorem walk_zip {F : Hp} {a b : Addr} {xs ys : List V} {ds es : List PyData} (hs : SqL X.K F a xs) (ha : VdAll X.K F xs ds) (hs2 : SqL X.K F b ys) (hb : VdAll X.K F ys es) : WalkOk X.K (Itz X.K a b) F (zipL ds es) where
  go := fun i F1 H s1 s2 hi => by
    rw [zipL_len] at hi
    obtain ⟨x, hx, _⟩ := ha.get (List.getElem?_eq_getElem (show i < ds.length by omega))
    obtain ⟨y, hy, _⟩ := hb.get (List.getElem?_eq_getElem (show i < es.length by omega))
    exact ⟨xs, ys, x, y, s2.seq (s1.seq hs), s2.seq (s1.seq hs2), hx, hy⟩
  yld := fun i d F1 H x H' s1 s2 hd ⟨T, y, z, e1, n, e2, hy, hz⟩ => by
    subst e1 e2
    obtain ⟨d', e', h1, h2, rfl⟩ := zipL_get _ _ _ _ hd
    obtain ⟨x', hx, hv⟩ := ha.get h1
    obtain ⟨y', hy', hv2⟩ := hb.get h2
    have q1 := hy xs (s2.seq (s1.seq hs))
    rw [hx] at q1
    cases q1
    have q2 := hz ys (s2.seq (s1.seq hs2))
    rw [hy'] at q2
    cases q2
    exact new_pair s2 n (Vd.mono s1 d' _ hv) (Vd.mono s1 e' _ hv2)
  stop := fun i F1 H s1 s2 hi => by
    rw [zipL_len] at hi
    have l1 := ha.length
    have l2 := hb.length
    exact ⟨xs, ys, s2.seq (s1.seq hs), s2.seq (s1.seq hs2), by omega⟩
def zip2 : List PyData → Option (List PyData)
  | [.list ds, .list es] => some (zipL ds es)
  | _ => none
theorem vi_zip {e e2 : Expr} {elts : List Expr} {kk : Nat} {tpos : Pos} (hg : Gl X "zip") (hm : X.mg "zip" = none) (ha : VA X P [e, e2] fa) (hs : starEach [e, e2] X.env = (false, eval e X.env) :: starEach [e2] X.env := by rfl) (hpl : (backTo pos (starEach [e2] X.env)).any (·.1) = false := by rfl) :
    VI X P (.Tuple elts kk tpos) (.Call (.Name "zip" p) [e, e2] [] pos) (mWk zip2 fa) := PI_mono (pi_zip hg hm ha hs hpl) fun σ H Rr h => by
  obtain ⟨ρ, F, hR, h⟩ := h
  refine firstI hR h fun d ds vs F1 H1 hv R1 hd h1 => ?_
  unfold zip2 at hd
  split at hd
  · cases hd
    obtain ⟨v, u, rfl, k1, k2⟩ := vd2 hv
    cases k1 with
    | lst hs hz ha =>
      cases k2 with
      | lst hs2 hz2 ha2 => exact ⟨_, _, _, _, rfl, R1.fh.seq hs, R1.fh.seq hs2, h1 _ H1 F1 (Ext.refl R1.fh) (walk_zip hs ha hs2 ha2)⟩
  · cases hd
theorem rev_get {α : Type} (ds : List α) {i : Nat} (h : i < ds.length) : ds.reverse[i]? = ds[ds.length - 1 - i]? := List.getElem?_reverse h
theorem walk_rev {F : Hp} {a : Addr} {xs : List V} {ds : List PyData} (hs : SqL X.K F a xs) (ha : VdAll X.K F xs ds) : WalkOk X.K (Itv X.K a xs.length) F ds.reverse where
  go := fun i F1 H s1 s2 hi => by
    rw [List.length_reverse, ← ha.length] at hi
    exact ⟨hi, xs, xs[xs.length - 1 - i], s2.seq (s1.seq hs), List.getElem?_eq_getElem (by omega)⟩
  yld := fun i d F1 H x H' s1 s2 hd ⟨e, hy⟩ => by
    subst e
    have hl : i < ds.length := by
      have := (List.getElem?_eq_some_iff.mp hd).1
      rwa [List.length_reverse] at this
    rw [rev_get ds hl] at hd
    obtain ⟨x', hx, hv⟩ := ha.get hd
    have := hy xs (s2.seq (s1.seq hs))
    rw [ha.length, hx] at this
    cases this
    exact ⟨F1, Ext.refl s2, Vd.mono s1 d x hv⟩
  stop := fun i F1 H s1 s2 hi => by
    rw [List.length_reverse, ← ha.length] at hi
    exact hi
def rev1 : PyData → Option (List PyData)
  | .list ds => some ds.reverse
  | .tuple ds => some ds.reverse
  | _ => none
def mRev (f : Evn → RE PyData) (ρ : Evn) : RE (List PyData) := (f ρ).bind fun d => ofO (rev1 d)
theorem walk_revT {F : Hp} {a : Addr} {xs : List V} {ds : List PyData} (hs : SqT X.K F a xs) (ha : VdAll X.K F xs ds) : WalkOk X.K (ItvT X.K a xs.length) F ds.reverse where
  go := fun i F1 H s1 s2 hi => by
    rw [List.length_reverse, ← ha.length] at hi
    exact ⟨hi, xs, xs[xs.length - 1 - i], same_sqT s2 (same_sqT s1 hs), List.getElem?_eq_getElem (by omega)⟩
  yld := fun i d F1 H x H' s1 s2 hd ⟨e, hy⟩ => by
    subst e
    have hl : i < ds.length := by
      have := (List.getElem?_eq_some_iff.mp hd).1
      rwa [List.length_reverse] at this
    rw [rev_get ds hl] at hd
    obtain ⟨x', hx, hv⟩ := ha.get hd
    have := hy xs (same_sqT s2 (same_sqT s1 hs))
    rw [ha.length, hx] at this
    cases this
    exact ⟨F1, Ext.refl s2, Vd.mono s1 d x hv⟩
  stop := fun i F1 H s1 s2 hi => by
    rw [List.length_reverse, ← ha.length] at hi
    exact hi
theorem vi_rev {e : Expr} (hg : Gl X "reversed") (hm : X.mg "reversed" = none) (he : VE X P e fe) (hs : starEach [e] X.env = (false, eval e X.env) :: starEach [] X.env := by rfl) : VI X P tg (.Call (.Name "reversed" p) [e] [] pos) (mRev fe) := PI_mono (pi_revA hg hm he hs) fun σ H Rr h => by
  obtain ⟨ρ, F, hR, h⟩ := h
  refine ⟨ρ, F, hR, ?_⟩
  refine R.post_mono (R.post_bind h) (fun d q v H' F' ex hv => ?_) (fun c _ q => q)
  have sf := (hR.step ex).fh
  cases hv with
  | lst hs hz ha => exact ⟨_, _, rfl, .inl ⟨sf.seq hs, q _ H' F' ex (walk_rev hs ha)⟩⟩
  | tup hs hz ha => exact ⟨_, _, rfl, .inr ⟨same_sqT sf hs, q _ H' F' ex (walk_revT hs ha)⟩⟩
  | _ => exact q.elim
end
end PV
end
section
set_option Elab.async false
set_option linter.all false
set_option maxRecDepth 100000
set_option maxHeartbeats 4000000
namespace PV
open PySem PySem.Spec PyProof.Rows L2

/-! ### loops -/
def forM (m : PyData → Evn → Option Evn) (body : Evn → RS) : List PyData → Evn → RS
  | [], ρ => .ok (.nx, ρ)
  | d :: r, ρ => (oS (m d ρ)).bind fun ρ1 => (body ρ1).bind fun p => match p.1 with
    | .nx => forM m body r p.2
    | .ct => forM m body r p.2
    | .bk => .ok (.nx, p.2)
    | .rt d => .ok (.rt d, p.2)
def sFor (g : Evn → RE (List PyData)) (m : PyData → Evn → Option Evn) (body : Evn → RS) (ρ : Evn) : RS := ((g ρ).at ρ).bind fun ds => forM m body ds ρ
def whileM (c : Evn → RE Bool) (body : Evn → RS) : Nat → Evn → RS
  | 0, _ => .bad
  | n + 1, ρ => ((c ρ).at ρ).bind fun b => if b then (body ρ).bind fun p => match p.1 with
    | .nx => whileM c body n p.2
    | .ct => whileM c body n p.2
    | .bk => .ok (.nx, p.2)
    | .rt d => .ok (.rt d, p.2)
    else .ok (.nx, ρ)
section
variable {X : Cx} {P : Pm} {pos : Pos} {tg iter : Expr} {body : List Stmt} {g : Evn → RE (List PyData)} {m : PyData → Evn → Option Evn} {fb : Evn → RS} {fc : Evn → RE Bool}
theorem vs_for {js : List Nat} (hp : PassesOwn (model X.prog X.w) X.A X.env X.xe) (hc : X.calm = true) (hi : VI X P tg iter g) (hg : VG X P tg m js) (hb : VSs X P body fb) (hs : ∀ x, foldedSetIterable iter X.env x = pure x := by intro _; rfl) : VS X P (.For tg iter body [] pos) (sFor g m fb) :=
  PS_mono (ps_for hp hc hi hg hb hs) fun D σ H h => by
    obtain ⟨ρ, F, hR, h⟩ := h
    refine ⟨ρ, F, hR, ?_⟩
    unfold sFor at h
    cases q : g ρ with
    | bad => rw [q] at h; exact h.elim
    | exc c u => rw [q] at h; exact fun C H' F' hm ex => h C σ H' F' hm ex.ff (hR.step ex)
    | ok ds =>
      rw [q] at h
      have h' : OutS X P D F (forM m fb ds ρ) := h
      intro J H0 F0 ex wk
      refine ⟨fun i k σ H => k = ds.length - i ∧ i ≤ ds.length ∧ ∃ ρ F1, Same F0 F1 ∧ Rep X.K P ρ F1 σ H ∧ OutS X P D F1 (forM m fb (ds.drop i) ρ), ⟨ds.length, by simp, Nat.zero_le _, ρ, F0, Same.refl _, hR.step ex, by rw [List.drop_zero]; exact OutS.step h' ex.ff⟩, ?_⟩
      rintro i k σ1 H1 ⟨rfl, hi, ρ1, F1, s1, R1, h1⟩
      by_cases hlt : i < ds.length
      · right
        refine ⟨wk.go i F1 H1 s1 R1.fh hlt, fun σ' H' => ∃ ρ F2, Same F0 F2 ∧ Rep X.K P ρ F2 σ' H' ∧ OutS X P D F2 (forM m fb (ds.drop (i + 1)) ρ), fun σ' H' n => ⟨ds.length - (i + 1), by omega, rfl, hlt, n⟩, fun x H' y => ?_⟩
        obtain ⟨F2, e2, hv⟩ := wk.yld i _ F1 H1 x H' s1 R1.fh (List.getElem?_eq_getElem hlt) y
        rw [List.drop_eq_getElem_cons hlt] at h1
        have R2 := R1.step e2
        have h2 := OutS.step h1 e2.ff
        unfold forM at h2
        cases q2 : m ds[i] ρ1 with
        | none => rw [q2] at h2; exact h2.elim
        | some ρ2 =>
          rw [q2] at h2
          refine ⟨ρ1, F2, _, ρ2, R2, hv, q2, fun σ2 r2 _ => ⟨ρ2, F2, r2, ?_⟩⟩
          have h3 : OutS X P D F2 ((fb ρ2).bind fun p => match p.1 with
            | .nx => forM m fb (ds.drop (i + 1)) p.2
            | .ct => forM m fb (ds.drop (i + 1)) p.2
            | .bk => .ok (.nx, p.2)
            | .rt d => .ok (.rt d, p.2)) := h2
          have s02 := s1.trans e2.ff
          cases q3 : fb ρ2 with
          | bad => rw [q3] at h3; exact h3.elim
          | exc c ρ3 => rw [q3] at h3; exact h3
          | ok p =>
            rw [q3] at h3
            obtain ⟨fl, ρ3⟩ := p
            cases fl with
            | nx => exact fun σ' H' F' s r => ⟨ρ3, F', s02.trans s, r, OutS.step h3 s⟩
            | ct => exact fun σ' H' F' s r => ⟨ρ3, F', s02.trans s, r, OutS.step h3 s⟩
            | bk => exact h3
            | rt d => exact h3
      · left
        have e : ds.drop i = [] := List.drop_eq_nil_of_le (by omega)
        rw [e] at h1
        exact ⟨wk.stop i F1 H1 s1 R1.fh (by omega), h1 σ1 H1 F1 (Same.refl _) R1⟩
theorem vs_while (fuel : Nat) {c : Expr} (hp : PassesOwn (model X.prog X.w) X.A X.env X.xe) (hc : VT X P c fc) (hb : VSs X P body fb) : VS X P (.While c body [] pos) (whileM fc fb fuel) :=
  PS_mono (ps_while hp hc hb) fun D σ H h => by
    obtain ⟨ρ, F, hR, h⟩ := h
    refine ⟨fun k σ H => ∃ ρ F, Rep X.K P ρ F σ H ∧ OutS X P D F (whileM fc fb k ρ), ⟨fuel, ρ, F, hR, h⟩, ?_⟩
    rintro k σ1 H1 ⟨ρ1, F1, R1, h1⟩
    cases k with
    | zero => exact h1.elim
    | succ k =>
      unfold whileM at h1
      refine OutS.firstB R1 h1 fun b F2 H2 e2 R2 h2 => ?_
      cases b with
      | false => rw [if_neg (by decide)]; exact h2 σ1 H2 F2 (Same.refl _) R2
      | true =>
        rw [if_pos rfl]
        refine ⟨fun σ' H' => ∃ ρ F, Rep X.K P ρ F σ' H' ∧ OutS X P D F (whileM fc fb k ρ), fun σ' H' n => ⟨k, Nat.lt_succ_self _, n⟩, ρ1, F2, R2, ?_⟩
        have h3 : OutS X P D F2 ((fb ρ1).bind fun p => match p.1 with
          | .nx => whileM fc fb k p.2
          | .ct => whileM fc fb k p.2
          | .bk => .ok (.nx, p.2)
          | .rt d => .ok (.rt d, p.2)) := h2
        cases q3 : fb ρ1 with
        | bad => rw [q3] at h3; exact h3.elim
        | exc c ρ3 => rw [q3] at h3; exact h3
        | ok p =>
          rw [q3] at h3
          obtain ⟨fl, ρ3⟩ := p
          cases fl with
          | nx => exact fun σ' H' F' s r => ⟨ρ3, F', r, OutS.step h3 s⟩
          | ct => exact fun σ' H' F' s r => ⟨ρ3, F', r, OutS.step h3 s⟩
          | bk => exact h3
          | rt d => exact h3
end

/-! ### comprehensions -/
/-- in a block no exception is let out -/
abbrev Pm.nx (P : Pm) : Pm := ⟨P.B, P.F0, fun _ _ _ _ => False, P.E⟩
theorem Rep.nx {K : PySem.W.Frag} {P : Pm} {ρ : Evn} {F H : Hp} {σ : Sg} (r : Rep K P ρ F σ H) : Rep K P.nx ρ F σ H := ⟨r.len, r.ext, r.slot, r.sep⟩
def wipeE (ρ : Evn) : List Nat → Evn
  | [] => ρ
  | v :: vs => (wipeE ρ vs).set v none
theorem Rep.wipe {K : PySem.W.Frag} {P : Pm} {ρ : Evn} {F H : Hp} {σ : Sg} (r : Rep K P ρ F σ H) : ∀ vs : List Nat, Rep K P (wipeE ρ vs) F (L2.wipe σ vs) H
  | [] => r
  | v :: vs => (Rep.wipe r vs).setNone
/-- a fresh list: it stands beside the still part -/
def OutF (X : Cx) (P : Pm) (σ : Sg) (Q : VK) (F H : Hp) (r : RE (List PyData)) : Prop :=
  r.post (fun ds => ∀ p xs H' F', Ext F H F' H' → H p = none → F' p = none → H' p = some (.lst xs) → xs.length ≤ sizeLine → VdAll X.K F' xs ds → Q (.ref p) H') (fun c _ => ∀ C H' F', X.mg c = some (.ref C) → Ext F H F' H' → P.W (.ref C) none σ H')
def tFV (X : Cx) (P : Pm) (f : Evn → RE (List PyData)) : TE := fun σ H Q => ∃ ρ F, Rep X.K P ρ F σ H ∧ OutF X P σ Q F H (f ρ)
def VF (X : Cx) (P : Pm) (e : Expr) (f : Evn → RE (List PyData)) : Prop := PE X e (tFV X P f)
def mL (f : Evn → RE (List PyData)) (ρ : Evn) : RE PyData := (f ρ).bind fun ds => .ok (.list ds)
theorem VF.v {X : Cx} {P : Pm} {e : Expr} {f : Evn → RE (List PyData)} (h : VF X P e f) : VE X P e (mL f) := PE_mono h fun σ H Q h => by
  obtain ⟨ρ, F, hR, h⟩ := h
  refine ⟨ρ, F, hR, ?_⟩
  refine R.post_mono (R.post_bind h) (fun ds q p xs H' F' ex n nf h1 hz hv => ?_) (fun c _ q => q)
  exact q _ H' (upd F' p (.lst xs)) (Ext.still ex h1 n nf) (.lst (SqL.of upd_same) hz (VdAll.mono (same_upd nf) ds xs hv))
def nox {α : Type} : RE α → RE α
  | .exc _ _ => .bad
  | x => x
theorem nox_ok {α : Type} {x : RE α} {Q : α → Prop} {E : Str → Unit → Prop} (h : (nox x).post Q E) : ∃ a, x = .ok a ∧ Q a := by
  cases x with
  | ok a => exact ⟨a, rfl, h⟩
  | exc c e => exact h.elim
  | bad => exact h.elim
def lcM (m : PyData → Evn → Option Evn) (t : Evn → RE Bool) (e : Evn → RE PyData) (ρ : Evn) : List PyData → RE (List PyData)
  | [] => .ok []
  | d :: r => (ofO (m d ρ)).bind fun ρ1 => (nox (t ρ1)).bind fun b => if b then (nox (e ρ1)).bind fun x => (lcM m t e ρ r).bind fun xs => .ok (x :: xs) else lcM m t e ρ r
/-- .. with what is made so far -/
def lcA (m : PyData → Evn → Option Evn) (t : Evn → RE Bool) (e : Evn → RE PyData) (ρ : Evn) : List PyData → List PyData → RE (List PyData)
  | [], acc => .ok acc
  | d :: r, acc => (ofO (m d ρ)).bind fun ρ1 => (nox (t ρ1)).bind fun b => if b then (nox (e ρ1)).bind fun x => lcA m t e ρ r (acc ++ [x]) else lcA m t e ρ r acc
theorem bind_assoc {ε α β γ : Type} (x : R ε α) (f : α → R ε β) (g : β → R ε γ) : (x.bind f).bind g = x.bind fun a => (f a).bind g := by cases x <;> rfl
theorem lcA_eq (m : PyData → Evn → Option Evn) (t : Evn → RE Bool) (e : Evn → RE PyData) (ρ : Evn) : ∀ (ds acc : List PyData), lcA m t e ρ ds acc = (lcM m t e ρ ds).bind fun xs => .ok (acc ++ xs)
  | [], acc => by simp [lcA, lcM, R.bind]
  | d :: r, acc => by
    unfold lcA lcM
    rw [bind_assoc]
    congr 1
    funext ρ1
    rw [bind_assoc]
    congr 1
    funext b
    cases b with
    | true =>
      simp only [if_true]
      rw [bind_assoc]
      congr 1
      funext x
      rw [lcA_eq m t e ρ r, bind_assoc]
      congr 1
      funext xs
      simp [R.bind]
    | false => simp only [Bool.false_eq_true, if_false]; exact lcA_eq m t e ρ r acc
/-- a list comprehension: vs the block's own names -/
def mLc (g : Evn → RE (List PyData)) (m : PyData → Evn → Option Evn) (t : Evn → RE Bool) (e : Evn → RE PyData) (vs : List Nat) (ρ : Evn) : RE (List PyData) := (g ρ).bind fun ds => if ds.length ≤ sizeLine then lcM m t e (wipeE ρ vs) ds else .bad
def mYes (_ : Evn) : RE Bool := .ok true
theorem wipe_idem {σ : Sg} {vs : List Nat} : L2.wipe (L2.wipe σ vs) vs = L2.wipe σ vs := by
  have key : ∀ ws : List Nat, (∀ i ∈ ws, i ∈ vs) → L2.wipe (L2.wipe σ ws) vs = L2.wipe σ vs := fun ws => by
    induction ws with
    | nil => intro _; rfl
    | cons w ws ih =>
      intro h
      show L2.wipe ((L2.wipe σ ws).set w none) vs = _
      rw [wipe_set (h w List.mem_cons_self)]
      exact ih fun i hi => h i (List.mem_cons_of_mem _ hi)
  exact key vs fun _ h => h
def VTs (X : Cx) (P : Pm) (ifs : List Expr) (f : Evn → RE Bool) : Prop := PTs X ifs (tTV X P f)
theorem PTs_mono {X : Cx} {e : List Expr} {t t' : TT} (h : PTs X e t) (m : ∀ σ H Q, t' σ H Q → t σ H Q) : PTs X e t' := ⟨fun pins s σ H Q I q => h.run pins s σ H Q I (m σ H Q q)⟩
section
variable {X : Cx} {P : Pm} {pos : Pos} {elt tg iter : Expr} {ifs : List Expr} {scope : Scope} {own : List (Str × Nat)} {g : Evn → RE (List PyData)} {m : PyData → Evn → Option Evn} {t : Evn → RE Bool} {fe : Evn → RE PyData} {js : List Nat}
theorem vts_nil : VTs X P [] mYes := PTs_mono pts_nil fun σ H Q h => by
  obtain ⟨ρ, F, hR, h⟩ := h
  exact h H F (Ext.refl hR.fh)
theorem vts_one {c : Expr} (h : VT X P c t) : VTs X P [c] t := pts_one h
theorem wipeE_some {ρ : Evn} {i : Nat} {c : Cel} : ∀ {vs : List Nat}, (wipeE ρ vs)[i]? = some (some c) → ρ[i]? = some (some c) ∧ i ∉ vs
  | [], h => ⟨h, by simp⟩
  | v :: vs, h => by
    unfold wipeE at h
    by_cases hi : v = i
    · subst hi
      have hl : v < (wipeE ρ vs).length := by
        have := (List.getElem?_eq_some_iff.mp h).1
        rwa [List.length_set] at this
      rw [List.getElem?_set_self hl] at h
      cases h
    · rw [List.getElem?_set_ne hi] at h
      obtain ⟨h1, h2⟩ := wipeE_some h
      exact ⟨h1, by simp only [List.mem_cons, not_or]; exact ⟨fun e => hi e.symm, h2⟩⟩
theorem Rep.other {K : PySem.W.Frag} {P : Pm} {ρ : Evn} {F H : Hp} {σ : Sg} {D : Addr} {o : HO} (r : Rep K P ρ F σ H) (hb : P.B D = none) (hf : F D = none) (no : ∀ (i : Nat) (ds : List PyData), ρ[i]? = some (some (.own ds)) → σ[i]? ≠ some (some (.ref D))) : Rep K P ρ F σ (upd H D o) := by
  have sm : ∀ {G : Hp}, G D = none → Same G H → Same G (upd H D o) := fun {G} n s b u e => by
    rw [upd_ne (ne_of_none e n)]; exact s b u e
  refine ⟨r.len, ⟨sm hb r.ext.hh, r.ext.ff, sm hf r.ext.fh, r.ext.nw⟩, fun i c q => ?_, r.sep⟩
  obtain ⟨v, h1, h2⟩ := r.slot i c q
  refine ⟨v, h1, ?_⟩
  cases c with
  | val d => exact h2
  | exn c => exact h2
  | own ds =>
    obtain ⟨a, xs, ev, b1, b2, b3, b4, b5⟩ := h2
    subst ev
    refine ⟨a, xs, rfl, b1, b2, ?_, b4, b5⟩
    rw [upd_ne]
    · exact b3
    · intro e
      subst e
      exact no i ds q h1
/-- the reading of a comprehension: the new list at D stands beside the still part -/
theorem rdLc {σ : Sg} {H : Hp} {Q : VK} {vs : List Nat} (hjs : ∀ i ∈ js, i ∈ vs) (h : tFV X P (mLc g m t fe vs) σ H Q) : tLc (tIV X P g) (tG X P.nx m js) (tTV X P.nx t) (tV X P.nx fe) vs σ H Q := by
  obtain ⟨ρ, F, hR, h⟩ := h
  refine ⟨ρ, F, hR, ?_⟩
  refine R.post_mono (R.post_bind h) (fun ds q J H0 F0 ex wk => ?_) (fun c _ q => q)
  by_cases hz : ds.length ≤ sizeLine
  case neg => rw [if_neg hz] at q; exact q.elim
  rw [if_pos hz] at q
  intro D hD
  have f0 : F0 D = none := (hR.step ex).fh.free hD
  have R0 := ((hR.step ex).step (Ext.beside (o := .lst []) (hR.step ex).fh hD)).nx.wipe vs
  have hHD : H D = none := ex.hh.free hD
  have hBD : P.B D = none := hR.ext.hh.free hHD
  have noD : ∀ (i : Nat) (ds : List PyData), (wipeE ρ vs)[i]? = some (some (.own ds)) → (L2.wipe σ vs)[i]? ≠ some (some (.ref D)) := fun i ds e1 e2 => by
    obtain ⟨e3, _⟩ := wipeE_some e1
    obtain ⟨e4, _⟩ := L2.wipe_some e2
    obtain ⟨v, e5, a, xs, e6, _, _, e7, _⟩ := hR.slot i _ e3
    rw [e4] at e5
    cases e5
    cases e6
    rw [hHD] at e7
    cases e7
  -- what is left gives the answer
  let Go : Nat → Hp → Prop := fun i H1 => ∃ acc xs F1, Same F0 F1 ∧ Ext F H F1 H1 ∧ F1 D = none ∧ H1 D = some (.lst xs) ∧ xs.length ≤ i ∧ VdAll X.K F1 xs acc ∧ Rep X.K P.nx (wipeE ρ vs) F1 (L2.wipe σ vs) H1 ∧
    (lcA m t fe (wipeE ρ vs) (ds.drop i) acc).post (fun ys => ∀ p xs H' F', Ext F H F' H' → H p = none → F' p = none → H' p = some (.lst xs) → xs.length ≤ sizeLine → VdAll X.K F' xs ys → Q (.ref p) H') (fun _ _ => True)
  refine ⟨fun i k H1 => k = ds.length - i ∧ i ≤ ds.length ∧ Go i H1, ⟨ds.length, by simp, Nat.zero_le _, [], [], F0, Same.refl _, ex.trans (Ext.beside (hR.step ex).fh hD), f0, upd_same, Nat.zero_le _, .nil, R0, ?_⟩, ?_⟩
  · rw [List.drop_zero, lcA_eq]
    cases q2 : lcM m t fe (wipeE ρ vs) ds with
    | ok ys => rw [q2] at q; exact q
    | exc c u => trivial
    | bad => rw [q2] at q; exact q.elim
  rintro i k H1 ⟨rfl, hi, acc, xs, F1, s1, e1, d1, hd1, hl1, ha1, R1, p1⟩
  have sf1 : Same F1 H1 := e1.fh
  by_cases hlt : i < ds.length
  · right
    refine ⟨wk.go i F1 H1 s1 sf1 hlt, Go (i + 1), fun H' n => ⟨ds.length - (i + 1), by omega, rfl, hlt, n⟩, fun x H2 y => ?_⟩
    obtain ⟨F2, e2, hv⟩ := wk.yld i _ F1 H1 x H2 s1 sf1 (List.getElem?_eq_getElem hlt) y
    rw [List.drop_eq_getElem_cons hlt] at p1
    have R2 := R1.step e2
    have nD : ∀ {F' H' : Hp}, Ext F1 H1 F' H' → F' D = none := fun {F' H'} e => by
      cases q3 : F' D with
      | none => rfl
      | some o =>
        rcases e.nw D o q3 with z | z
        · rw [d1] at z; cases z
        · rw [hd1] at z; cases z
    unfold lcA at p1
    cases q2 : m ds[i] (wipeE ρ vs) with
    | none => rw [q2] at p1; exact p1.elim
    | some ρ2 =>
      rw [q2] at p1
      refine ⟨wipeE ρ vs, F2, _, ρ2, R2, hv, q2, fun σ2 R3 b => ⟨(b vs hjs).trans wipe_idem, ?_⟩⟩
      refine ⟨ρ2, F2, R3, ?_⟩
      have p2 := R.post_bind (x := nox (t ρ2)) (f := fun b => if b = true then (nox (fe ρ2)).bind fun x => lcA m t fe (wipeE ρ vs) (ds.drop (i + 1)) (acc ++ [x]) else lcA m t fe (wipeE ρ vs) (ds.drop (i + 1)) acc) p1
      obtain ⟨b, q4, p3⟩ := nox_ok p2
      rw [q4]
      intro H3 F3 e3
      have e13 := e2.trans e3
      cases b with
      | false =>
        rw [if_neg (by decide)]
        rw [if_neg (by decide)] at p3
        exact ⟨acc, xs, F3, s1.trans e13.ff, e1.trans e13, nD e13, e13.hh D _ hd1, by omega, VdAll.mono e13.ff _ _ ha1, R1.step e13, p3⟩
      | true =>
        rw [if_pos rfl]
        rw [if_pos rfl] at p3
        obtain ⟨d, q5, p4⟩ := nox_ok (R.post_bind p3)
        refine ⟨ρ2, F3, R3.step e3, ?_⟩
        rw [q5]
        intro v H4 F4 e4 hv4
        have e14 := e13.trans e4
        have f4 : F4 D = none := nD e14
        have e := e1.trans e14
        have s4 : ∀ {G : Hp}, G D = none → Same G H4 → Same G (upd H4 D (.lst (xs ++ [v]))) := fun {G} n s b u e => by
          rw [upd_ne (ne_of_none e n)]; exact s b u e
        exact ⟨xs, e14.hh D _ hd1, by omega, acc ++ [d], xs ++ [v], F4, s1.trans e14.ff, ⟨s4 hHD e.hh, e.ff, s4 f4 e.fh, e.nw⟩, f4, upd_same, by rw [List.length_append]; show _ + 1 ≤ _; omega, (VdAll.mono e14.ff _ _ ha1).append (.cons hv4 .nil), (R1.step e14).other hBD f4 noD, p4⟩
  · left
    have e : ds.drop i = [] := List.drop_eq_nil_of_le (by omega)
    rw [e] at p1
    exact ⟨wk.stop i F1 H1 s1 sf1 (by omega), p1 D xs H1 F1 e1 hHD d1 hd1 (by omega) ha1⟩
theorem vf_lc {vs : List Nat} (hc : X.calm = true) (hN : X.N.Nodup) (hi : VI X P tg iter g) (ok : BlkOk X.N X.env.scope scope own)
    (hg : ∀ (s : Shared) (H : Hp) (C : Addr) (cl : List (Str × Addr)) (fp : List Addr), VG (X.blk s H scope (compEnvC scope cl C X.env) fp) P.nx tg m js) (ht : ∀ (s : Shared) (H : Hp) (C : Addr) (cl : List (Str × Addr)) (fp : List Addr), VTs (X.blk s H scope (compEnvC scope cl C X.env) fp) P.nx ifs t)
    (he : ∀ (s : Shared) (H : Hp) (C : Addr) (cl : List (Str × Addr)) (fp : List Addr), VE (X.blk s H scope (compEnvC scope cl C X.env) fp) P.nx elt fe) (hvs : own.map (·.2) = vs := by rfl) (hjs : ∀ i ∈ js, i ∈ vs := by decide) (hs : ∀ x, foldedSetIterable iter X.env x = pure x := by intro _; rfl) :
    VF X P (.ListComp elt [⟨tg, iter, ifs, 0⟩] scope pos) (mLc g m t fe vs) := PE_mono (pe_lc (g := tG X P.nx m js) (tt := tTV X P.nx t) (te := tV X P.nx fe) hc hN hi ok hg ht he hs) fun σ H Q h => by subst hvs; exact rdLc hjs h
/-- name = [..] on one line, the name a plain local: the answer is still -/
def sSetL (i : Nat) (f : Evn → RE (List PyData)) (ρ : Evn) : RS := ((f ρ).at ρ).bind fun ds => .ok (.nx, ρ.set i (some (.val (.list ds))))
/-- .. the name's own -/
def sSetO (i : Nat) (f : Evn → RE (List PyData)) (ρ : Evn) : RS := ((f ρ).at ρ).bind fun ds => .ok (.nx, ρ.set i (some (.own ds)))
theorem OutS.firstF {D : Ends} {ρ : Evn} {F H : Hp} {σ : Sg} {fa : Evn → RE (List PyData)} {k : List PyData → RS} {Q' : VK} (hR : Rep X.K P ρ F σ H) (h : OutS X P D F (((fa ρ).at ρ).bind k))
    (hq : ∀ ds p xs F1 H1, Ext F H F1 H1 → H p = none → F1 p = none → H1 p = some (.lst xs) → xs.length ≤ sizeLine → VdAll X.K F1 xs ds → Rep X.K P ρ F1 σ H1 → OutS X P D F1 (k ds) → Q' (.ref p) H1) : tFV X P fa σ H Q' := by
  refine ⟨ρ, F, hR, ?_⟩
  cases q : fa ρ with
  | ok d => rw [q] at h; exact fun p xs H' F' ex n f h1 hz hv => hq d p xs F' H' ex n f h1 hz hv (hR.step ex) (OutS.step h ex.ff)
  | exc c u => rw [q] at h; exact fun C H' F' hm ex => h C σ H' F' hm ex.ff (hR.step ex)
  | bad => rw [q] at h; exact h.elim
theorem rdSetO {i : Nat} {f : Evn → RE (List PyData)} {D : Ends} {σ : Sg} {H : Hp} (h : tS X P (sSetO i f) D σ H) : tAsg (tFV X P f) (gName i) D σ H := by
  obtain ⟨ρ, F, hR, h⟩ := h
  refine OutS.firstF hR h fun ds p xs F1 H1 ex n f h1 hz hv R1 k => ?_
  refine k _ H1 F1 (Same.refl _) (R1.setOwn (hR.ext.hh.free n) f h1 hz hv fun j es _ q1 q2 => ?_)
  obtain ⟨v, e1, a, ys, e2, _, _, e3, _⟩ := hR.slot j _ q1
  rw [q2] at e1
  cases e1
  cases e2
  rw [n] at e3
  cases e3
theorem rdSetL {i : Nat} {f : Evn → RE (List PyData)} {D : Ends} {σ : Sg} {H : Hp} (h : tS X P (sSetL i f) D σ H) : tAsg (tFV X P f) (gName i) D σ H := by
  obtain ⟨ρ, F, hR, h⟩ := h
  refine OutS.firstF hR h fun ds p xs F1 H1 ex n f h1 hz hv R1 k => ?_
  have e2 := Ext.still ex h1 n f
  exact k _ H1 _ (same_upd f) ((hR.step e2).setVal (.lst (SqL.of upd_same) hz (VdAll.mono (same_upd f) ds xs hv)))
theorem vs_setO (i : Nat) {x : Str} {pos' : Pos} {e : Expr} {f : Evn → RE (List PyData)} (hN : X.N.Nodup) (he : VF X P e f) (hi : X.N[i]? = some x := by rfl) (hx : Loc X.env.scope x := by first | exact Or.inl rfl | exact Or.inr rfl) (hs : swapsWith e (some (.Name x pos')) pos.line X.env = pure false := by rfl)
    (hf : X.fn x = true ∨ X.env.scope.names.lookup x = some .local := by first | exact .inl rfl | exact .inr rfl) : VS X P (.Assign [.Name x pos'] e pos) (sSetO i f) := PS_mono (ps_set hN hi hx he hs hf) fun D σ H h => rdSetO h
theorem vs_lcO (i : Nat) {y : Str} {py spos : Pos} {vs : List Nat} (hc : X.calm = true) (hN : X.N.Nodup) (hi : VI X P tg iter g) (ok : BlkOk X.N X.env.scope scope own)
    (hg : ∀ (s : Shared) (H : Hp) (C : Addr) (cl : List (Str × Addr)) (fp : List Addr), VG (X.blk s H scope (compEnvC scope cl C X.env) fp) P.nx tg m js) (ht : ∀ (s : Shared) (H : Hp) (C : Addr) (cl : List (Str × Addr)) (fp : List Addr), VTs (X.blk s H scope (compEnvC scope cl C X.env) fp) P.nx ifs t)
    (he : ∀ (s : Shared) (H : Hp) (C : Addr) (cl : List (Str × Addr)) (fp : List Addr), VE (X.blk s H scope (compEnvC scope cl C X.env) fp) P.nx elt fe) (hsw : swapsWith (.ListComp elt [⟨tg, iter, ifs, 0⟩] scope pos) (some (.Name y py)) spos.line X.env = pure true := by exact sw_true rfl rfl rfl (by decide +kernel)) (hvs : own.map (·.2) = vs := by rfl) (hjs : ∀ i ∈ js, i ∈ vs := by decide) (hy : X.N[i]? = some y := by rfl) (hyl : X.env.scope.names.lookup y = some .local := by rfl)
    (hs : ∀ x, foldedSetIterable iter X.env x = pure x := by intro _; rfl) :
    VS X P (.Assign [.Name y py] (.ListComp elt [⟨tg, iter, ifs, 0⟩] scope pos) spos) (sSetO i (mLc g m t fe vs)) := PS_mono (ps_setLc (g := tG X P.nx m js) (tt := tTV X P.nx t) (te := tV X P.nx fe) hc hN hy hyl hsw hi ok hg ht he hs) fun D σ H h => by
  subst hvs
  have h2 := rdSetO h
  exact rdLc hjs h2
theorem vs_lcL (i : Nat) {y : Str} {py spos : Pos} {vs : List Nat} (hc : X.calm = true) (hN : X.N.Nodup) (hi : VI X P tg iter g) (ok : BlkOk X.N X.env.scope scope own)
    (hg : ∀ (s : Shared) (H : Hp) (C : Addr) (cl : List (Str × Addr)) (fp : List Addr), VG (X.blk s H scope (compEnvC scope cl C X.env) fp) P.nx tg m js) (ht : ∀ (s : Shared) (H : Hp) (C : Addr) (cl : List (Str × Addr)) (fp : List Addr), VTs (X.blk s H scope (compEnvC scope cl C X.env) fp) P.nx ifs t)
    (he : ∀ (s : Shared) (H : Hp) (C : Addr) (cl : List (Str × Addr)) (fp : List Addr), VE (X.blk s H scope (compEnvC scope cl C X.env) fp) P.nx elt fe) (hsw : swapsWith (.ListComp elt [⟨tg, iter, ifs, 0⟩] scope pos) (some (.Name y py)) spos.line X.env = pure true := by exact sw_true rfl rfl rfl (by decide +kernel)) (hvs : own.map (·.2) = vs := by rfl) (hjs : ∀ i ∈ js, i ∈ vs := by decide) (hy : X.N[i]? = some y := by rfl) (hyl : X.env.scope.names.lookup y = some .local := by rfl)
    (hs : ∀ x, foldedSetIterable iter X.env x = pure x := by intro _; rfl) :
    VS X P (.Assign [.Name y py] (.ListComp elt [⟨tg, iter, ifs, 0⟩] scope pos) spos) (sSetL i (mLc g m t fe vs)) := PS_mono (ps_setLc (g := tG X P.nx m js) (tt := tTV X P.nx t) (te := tV X P.nx fe) hc hN hy hyl hsw hi ok hg ht he hs) fun D σ H h => by
  subst hvs
  have h2 := rdSetL h
  exact rdLc hjs h2
end
end PV
end
section
set_option Elab.async false
set_option linter.all false
set_option maxRecDepth 100000
set_option maxHeartbeats 4000000
namespace PV
open PySem PySem.Spec PyProof.Rows L2

/-! ### a name's own list is changed -/
theorem Rep.own {K : PySem.W.Frag} {P : Pm} {ρ : Evn} {F H : Hp} {σ : Sg} {i : Nat} {ds : List PyData} (r : Rep K P ρ F σ H) (q : ρ[i]? = some (some (.own ds))) : ∃ a xs, σ[i]? = some (some (.ref a)) ∧ P.B a = none ∧ F a = none ∧ H a = some (.lst xs) ∧ xs.length ≤ sizeLine ∧ VdAll K F xs ds := by
  obtain ⟨v, h1, a, xs, e, h⟩ := r.slot i _ q
  subst e
  exact ⟨a, xs, h1, h⟩
theorem Rep.mutate {K : PySem.W.Frag} {P : Pm} {ρ : Evn} {F H : Hp} {σ : Sg} {i : Nat} {ds ds' : List PyData} {a : Addr} {xs : List V} (r : Rep K P ρ F σ H) (q : ρ[i]? = some (some (.own ds))) (hσ : σ[i]? = some (some (.ref a))) (hb : P.B a = none) (hf : F a = none)
    (hz : xs.length ≤ sizeLine) (hv : VdAll K F xs ds') : Rep K P (ρ.set i (some (.own ds'))) F σ (upd H a (.lst xs)) := by
  have sm : ∀ {G : Hp}, G a = none → Same G H → Same G (upd H a (.lst xs)) := fun {G} n s b u e => by
    rw [upd_ne (ne_of_none e n)]; exact s b u e
  have hi : i < ρ.length := (List.getElem?_eq_some_iff.mp q).1
  have nj : ∀ {j : Nat} {c : Cel}, (ρ.set i (some (.own ds')))[j]? = some (some c) → (i = j ∧ c = .own ds') ∨ (i ≠ j ∧ ρ[j]? = some (some c)) := fun {j c} q => by
    by_cases hj : i = j
    · subst hj
      rw [List.getElem?_set_self hi] at q
      cases q
      exact .inl ⟨rfl, rfl⟩
    · rw [List.getElem?_set_ne hj] at q
      exact .inr ⟨hj, q⟩
  refine ⟨by rw [List.length_set]; exact r.len, ⟨sm hb r.ext.hh, r.ext.ff, sm hf r.ext.fh, r.ext.nw⟩, fun j c p => ?_, fun j k b es es' hne q1 q2 q3 => ?_⟩
  · rcases nj p with ⟨e, ec⟩ | ⟨n, p⟩
    · subst e; subst ec
      exact ⟨_, hσ, a, xs, rfl, hb, hf, upd_same, hz, hv⟩
    · obtain ⟨u, h1, h2⟩ := r.slot j c p
      refine ⟨u, h1, ?_⟩
      cases c with
      | val d => exact h2
      | exn c => exact h2
      | own es =>
        obtain ⟨a', xs', ev, b1, b2, b3, b4, b5⟩ := h2
        subst ev
        refine ⟨a', xs', rfl, b1, b2, ?_, b4, b5⟩
        rw [upd_ne]
        · exact b3
        · intro e
          subst e
          exact r.sep i j _ ds es n q p hσ h1
  · rcases nj q1 with ⟨e, ec⟩ | ⟨n1, p1⟩
    · subst e
      rcases nj q2 with ⟨e2, _⟩ | ⟨n2, p2⟩
      · exact absurd e2 hne
      · exact r.sep i k b ds es' hne q p2 q3
    · rcases nj q2 with ⟨e2, _⟩ | ⟨n2, p2⟩
      · subst e2
        exact r.sep j i b es ds hne p1 q q3
      · exact r.sep j k b es es' hne p1 p2 q3
/-- the own list at i -/
def ownAt (i : Nat) (ρ : Evn) : Option (List PyData) := match ρ[i]? with
  | some (some (.own ds)) => some ds
  | _ => none
theorem ownAt_eq {i : Nat} {ρ : Evn} {ds : List PyData} (h : ownAt i ρ = some ds) : ρ[i]? = some (some (.own ds)) := by
  unfold ownAt at h
  split at h
  · cases h; assumption
  · cases h
/-- x.append(e) -/
def sApp (i : Nat) (f : Evn → RE PyData) (ρ : Evn) : RS := match ownAt i ρ with
  | some ds => ((f ρ).at ρ).bind fun d => if ds.length < sizeLine then .ok (.nx, ρ.set i (some (.own (ds ++ [d])))) else .bad
  | none => .bad
section
variable {X : Cx} {P : Pm} {pos apos spos tpos : Pos} {e k : Expr} {fe fk : Evn → RE PyData} {x : Str}
theorem rdOwn {i : Nat} {ρ : Evn} {F H : Hp} {σ : Sg} {D : Ends} {k : List PyData → RS} (hR : Rep X.K P ρ F σ H) (h : OutS X P D F (match ownAt i ρ with | some ds => k ds | none => .bad)) :
    ∃ a xs ds, ρ[i]? = some (some (.own ds)) ∧ σ[i]? = some (some (.ref a)) ∧ P.B a = none ∧ F a = none ∧ H a = some (.lst xs) ∧ xs.length ≤ sizeLine ∧ VdAll X.K F xs ds ∧ OutS X P D F (k ds) := by
  cases q : ownAt i ρ with
  | none => rw [q] at h; exact h.elim
  | some ds =>
    rw [q] at h
    obtain ⟨a, xs, h1, h2, h3, h4, h5, h6⟩ := hR.own (ownAt_eq q)
    exact ⟨a, xs, ds, ownAt_eq q, h1, h2, h3, h4, h5, h6, h⟩
theorem Rep.own_at {i : Nat} {ρ : Evn} {F H : Hp} {σ : Sg} {ds : List PyData} {a : Addr} (r : Rep X.K P ρ F σ H) (q : ρ[i]? = some (some (.own ds))) (hσ : σ[i]? = some (some (.ref a))) : ∃ xs, F a = none ∧ H a = some (.lst xs) ∧ xs.length ≤ sizeLine ∧ VdAll X.K F xs ds := by
  obtain ⟨a', xs, g1, g2, g3, g4, g5, g6⟩ := r.own q
  rw [hσ] at g1
  cases g1
  exact ⟨xs, g3, g4, g5, g6⟩
theorem vs_append (i : Nat) {p : Pos} (he : VE X P e fe) (hN : X.N[i]? = some x := by rfl) (hv : Vis X.env.scope x := by first | exact Or.inl rfl | exact Or.inr (Or.inl rfl) | exact Or.inr (Or.inr rfl)) (hd : (x == ("__debug__" : Str)) = false := by decide) (hcd : (x == ("__classdict__" : Str)) = false := by decide)
    (hbase : attributeBase (.Name x p) "append" X.env (eval (.Name x p) X.env) = eval (.Name x p) X.env := by rfl)
    (hfew : ((backTo pos (starEach [e] X.env)).all (fun x => !x.1) && (backToKw pos (keywordEach [] X.env)).all (fun x => x.1.isSome)
      && decide ([e].length + ([] : List Keyword).length + (if ([] : List Keyword).isEmpty then 0 else 1) < 30)) = true := by rfl)
    (hline : (apos.endLine == pos.line) = true := by rfl) (hs : starEach [e] X.env = (false, eval e X.env) :: starEach [] X.env := by rfl) (hplain : (backTo pos (starEach [] X.env)).any (·.1) = false := by rfl) (hsw : swapsWith (.Call (.Attribute (.Name x p) "append" apos) [e] [] pos) none spos.line X.env = pure false := by rfl) :
    VS X P (.Expr (.Call (.Attribute (.Name x p) "append" apos) [e] [] pos) spos) (sApp i fe) :=
  PS_mono (ps_expr (pe_bm PySem.F.plainAttrs_list PySem.F.slot_list_append PySem.F.type_list_append mt_append (pe_var (i := i) hN hv hd hcd) (pa_cons he pa_nil hs) hbase hfew hline hs hplain) hsw) fun D σ H h => by
    obtain ⟨ρ, F, hR, h⟩ := h
    obtain ⟨a, xs, ds, q, h1, h2, h3, h4, h5, h6, h⟩ := rdOwn hR h
    refine ⟨_, h1, .inl ⟨rfl, _, SqL.of h4⟩, ?_⟩
    refine OutS.first hR h fun d v F1 H1 e1 hv R1 k => ?_
    obtain ⟨xs', g3, g4, g5, g6⟩ := R1.own_at q h1
    have hl := g6.length
    by_cases hz : ds.length < sizeLine
    · rw [if_pos hz] at k
      exact ⟨_, _, _, rfl, rfl, g4, by omega, k σ _ F1 (Same.refl _) (R1.mutate q h1 h2 g3 (by rw [List.length_append]; show _ + 1 ≤ _; omega) (g6.append (.cons hv .nil)))⟩
    · rw [if_neg hz] at k
      exact k.elim
/-- x[k] = e -/
def setD (ds : List PyData) (k d : PyData) : Option (List PyData) := match k with
  | .int j => (ixN ds.length j).map fun n => ds.set n d
  | _ => none
def sSetIx (i : Nat) (fk fe : Evn → RE PyData) (ρ : Evn) : RS := match ownAt i ρ with
  | some ds => ((fe ρ).at ρ).bind fun d => ((fk ρ).at ρ).bind fun k => (oS (setD ds k d)).bind fun es => .ok (.nx, ρ.set i (some (.own es)))
  | none => .bad
theorem setD_of {K : PySem.W.Frag} {F : Hp} {xs : List V} {ds es : List PyData} {kv v : V} {k d : PyData} (hx : VdAll K F xs ds) (hk : Vd K F kv k) (hv : Vd K F v d) (e : setD ds k d = some es) : ∃ j n, kv = .int j ∧ ixN xs.length j = some n ∧ VdAll K F (xs.set n v) es := by
  cases hk with
  | int j =>
    cases q : ixN ds.length j with
    | none => simp [setD, q] at e
    | some n =>
      simp only [setD, q, Option.map_some, Option.some.injEq] at e
      subst e
      exact ⟨j, n, rfl, by rw [hx.length]; exact q, hx.set hv n⟩
  | _ => cases e
theorem vs_setIx (i : Nat) {p : Pos} (hk : VE X P k fk) (he : VE X P e fe) (hN : X.N[i]? = some x := by rfl) (hv : Vis X.env.scope x := by first | exact Or.inl rfl | exact Or.inr (Or.inl rfl) | exact Or.inr (Or.inr rfl)) (hd : (x == ("__debug__" : Str)) = false := by decide) (hcd : (x == ("__classdict__" : Str)) = false := by decide)
    (ha : ∀ v, assign (.Subscript (.Name x p) k tpos) X.env v = (do
      let ov ← holding [v] (eval (.Name x p) X.env)
      let iv ← holding [v, ov] (eval k X.env)
      standAt tpos
      holding [v, ov, iv] (setItem ov iv v)
      release [v, ov, iv] []) := by intro _; rfl)
    (hs : swapsWithSole [.Subscript (.Name x p) k tpos] e spos.line X.env = pure false := by rfl) (hw : swappedStores [.Subscript (.Name x p) k tpos] e X.env = pure none := by rfl)
    (h1 : (assignEach [.Subscript (.Name x p) k tpos] X.env).map (·.2) = [assign (.Subscript (.Name x p) k tpos) X.env] := by rfl) :
    VS X P (.Assign [.Subscript (.Name x p) k tpos] e spos) (sSetIx i fk fe) :=
  PS_mono (ps_asg he (pg_sub (pe_var (i := i) hN hv hd hcd) hk set_list ha) hs hw h1) fun D σ H h => by
    obtain ⟨ρ, F, hR, h⟩ := h
    obtain ⟨a, xs, ds, q, h1, h2, h3, h4, h5, h6, h⟩ := rdOwn hR h
    refine OutS.first hR h fun d v F1 H1 e1 hv R1 h => ?_
    refine ⟨_, h1, ?_⟩
    refine OutS.first R1 h fun kd kv F2 H2 e2 hkv R2 h => ?_
    obtain ⟨xs', g3, g4, g5, g6⟩ := R2.own_at q h1
    cases q2 : setD ds kd d with
    | none => rw [q2] at h; exact h.elim
    | some es =>
      rw [q2] at h
      obtain ⟨j, n, rfl, hn, hes⟩ := setD_of g6 hkv (Vd.mono e2.ff d v hv) q2
      exact ⟨_, _, j, n, rfl, rfl, g4, hn, h σ _ F2 (Same.refl _) (R2.mutate q h1 h2 g3 (by rw [List.length_set]; exact g5) hes)⟩
/-- x[k] += e, ints -/
theorem get_list : PGet X (fun o i H Q => ∃ p xs k v, o = .ref p ∧ i = .int k ∧ SqL X.K H p xs ∧ atI xs k = some v ∧ Q v H) := by
  intro pins s σ H o i ov iv Q I ro ri h
  obtain ⟨p, xs, k, z, rfl, rfl, hq, he, q⟩ := h
  cases ro
  obtain ⟨t, rfl⟩ := ri
  obtain ⟨its, r, pl, hz⟩ := I.list hq
  obtain ⟨j, h1, h2, h3, h4, h5⟩ := atI_get he
  obtain ⟨w, ew, rw'⟩ := r.get h2
  have hl := r.length
  have hn := line63
  have fin : EP X pins σ Q w s := ⟨z, H, I, rw', q⟩
  by_cases h0 : 0 ≤ k
  · have hj : k.toNat = j := by
      rw [seqIndex_of h0 h5] at h1
      exact Option.some.inj h1
    exact wpAny_getItem_list pl.isList h0 (by omega) (by rw [hj]; simpa using ew) fin
  · have hj : (k + (its.toArray.size : Int)).toNat = j := by
      rw [seqIndex_neg (by omega) h4] at h1
      rw [List.size_toArray, ← hl]
      exact Option.some.inj h1
    exact wpAny_getItem_list_neg pl.isList (by omega) (by rw [List.size_toArray] <;> omega) (by omega) (by rw [hj]; simpa using ew) fin
def iOp (f : Int → Int → Int) : PyData → PyData → Option PyData
  | .int i, .int j => some (.int (f i j))
  | _, _ => none
def sAugIx (i : Nat) (fk : Evn → RE PyData) (f : Int → Int → Int) (fe : Evn → RE PyData) (ρ : Evn) : RS := match ownAt i ρ with
  | some ds => ((fk ρ).at ρ).bind fun k => (oS (pIdx (.list ds) k)).bind fun old => ((fe ρ).at ρ).bind fun d => (oS ((iOp f old d).bind (setD ds k))).bind fun es => .ok (.nx, ρ.set i (some (.own es)))
  | none => .bad
theorem vs_augIx (i : Nat) {p : Pos} {op : Operator} {f : Int → Int → Int} (ho : PIp X op (ipI f)) (hk : VE X P k fk) (he : VE X P e fe) (hN : X.N[i]? = some x := by rfl) (hv : Vis X.env.scope x := by first | exact Or.inl rfl | exact Or.inr (Or.inl rfl) | exact Or.inr (Or.inr rfl)) (hd : (x == ("__debug__" : Str)) = false := by decide) (hcd : (x == ("__classdict__" : Str)) = false := by decide)
    (ha : ∀ ov iv new, augStore k ov iv new = (do holding [new, ov, iv] (setItem ov iv new); release [new, ov, iv] []; pure .next) := by intros; rfl) :
    VS X P (.AugAssign (.Subscript (.Name x p) k tpos) op e pos) (sAugIx i fk f fe) :=
  PS_mono (ps_augS (pe_var (i := i) hN hv hd hcd) hk get_list he ho set_list ha) fun D σ H h => by
    obtain ⟨ρ, F, hR, h⟩ := h
    obtain ⟨a, xs, ds, q, h1, h2, h3, h4, h5, h6, h⟩ := rdOwn hR h
    refine ⟨_, h1, ?_⟩
    refine OutS.first hR h fun kd kv F1 H1 e1 hkv R1 h => ?_
    obtain ⟨xs1, g3, g4, g5, g6⟩ := R1.own_at q h1
    cases q1 : pIdx (.list ds) kd with
    | none => rw [q1] at h; exact h.elim
    | some old =>
      rw [q1] at h
      cases hkv with
      | int j =>
        obtain ⟨ov, ho1, ho2⟩ := g6.at (i := j) q1
        refine ⟨a, xs1, j, ov, rfl, rfl, SqL.of g4, ho1, ?_⟩
        refine OutS.first (k := fun d => (oS ((iOp f old d).bind (setD ds (.int j)))).bind fun es => .ok (.nx, ρ.set i (some (.own es)))) R1 h fun d v F2 H2 e2 hv R2 h9 => ?_
        obtain ⟨xs2, k3, k4, k5, k6⟩ := R2.own_at q h1
        cases q2 : iOp f old d with
        | none => rw [q2] at h9; exact h9.elim
        | some z =>
          rw [q2] at h9
          cases q3 : setD ds (.int j) z with
          | none => simp only [Option.bind_some, q3] at h9; exact h9.elim
          | some es =>
            simp only [Option.bind_some, q3] at h9
            have hov := Vd.mono e2.ff old ov ho2
            cases hov with
            | int a1 =>
              cases hv with
              | int b1 =>
                cases q2
                obtain ⟨j', n, e', hn, hes⟩ := setD_of (v := .int (f a1 b1)) k6 (.int j) (.int _) q3
                cases e'
                exact ⟨a1, b1, rfl, rfl, _, _, j, n, rfl, rfl, k4, hn, h9 σ _ F2 (Same.refl _) (R2.mutate q h1 h2 k3 (by rw [List.length_set]; exact k5) hes)⟩
              | _ => cases q2
            | _ => cases q2
      | _ => cases q1
/-- x op= e, x no list -/
def sAug (i : Nat) (g : PyData → PyData → Option PyData) (f : Evn → RE PyData) (ρ : Evn) : RS := match ρ[i]? with
  | some (some (.val d)) => ((f ρ).at ρ).bind fun e => (oS (g d e)).bind fun r => .ok (.nx, ρ.set i (some (.val r)))
  | _ => .bad
theorem vs_aug (i : Nat) {p : Pos} {op : Operator} {g : PyData → PyData → Option PyData} (ho : OpV X (inplaceOp op) g) (hN : X.N.Nodup) (he : VE X P e fe) (hi : X.N[i]? = some x := by rfl) (hx : Loc X.env.scope x := by first | exact Or.inl rfl | exact Or.inr rfl)
    (hf : X.fn x = true ∨ X.env.scope.names.lookup x = some .local := by first | exact .inl rfl | exact .inr rfl) : VS X P (.AugAssign (.Name x p) op e pos) (sAug i g fe) :=
  PS_mono (ps_aug (ti := rV X g) hN hi hx he ho.r hf) fun D σ H h => by
    obtain ⟨ρ, F, hR, h⟩ := h
    unfold sAug at h
    split at h
    · rename_i d q
      obtain ⟨v, h1, h2⟩ := hR.slot i _ q
      refine ⟨v, h1, ?_⟩
      refine OutS.first hR h fun e u F1 H1 e1 hu R1 h => ?_
      cases q2 : g d e with
      | none => rw [q2] at h; exact h.elim
      | some r =>
        rw [q2] at h
        exact ⟨F1, d, e, r, R1.fh, Vd.mono e1.ff d v h2, hu, q2, fun v' H' F' ex hv => h _ H' F' ex.ff ((R1.step ex).setVal hv)⟩
    · exact h.elim
def pIAdd : PyData → PyData → Option PyData
  | .int i, .int j => some (.int (i + j))
  | .str x, .str y => if x.length + y.length ≤ sizeLine then some (.str (x ++ y)) else none
  | _, _ => none
theorem opv_iadd : OpV X (inplaceOp .Add) pIAdd := by
  intro pins s σ H x y v u Q I rx ry F d e r sf hx hy hg hq
  cases hx with
  | int i =>
    cases hy with
    | int j =>
      cases hg
      exact iop_add pins s σ H _ _ v u Q I rx ry ⟨i, j, rfl, rfl, hq _ _ F (Ext.refl sf) (.int _)⟩
    | _ => cases hg
  | str x hx1 =>
    cases hy with
    | str y hy1 =>
      obtain ⟨hp, rfl⟩ := some_of_if hg
      refine iop_add_str pins s σ H _ _ v u Q I rx ry ⟨x, y, rfl, rfl, hp, hq _ _ F (Ext.refl sf) (.str _ ?_)⟩
      show ((x.cps ++ y.cps).all _) = true
      have h1 : x.cps.all (fun c => decide (c < 0x110000)) = true := hx1
      have h2 : y.cps.all (fun c => decide (c < 0x110000)) = true := hy1
      rw [Array.all_append, h1, h2]
      rfl
    | _ => cases hg
  | _ => cases hg
theorem opv_isub : OpV X (inplaceOp .Sub) pSub := opI2 (rI0_of iop_sub) (fun _ _ _ => .int _) fun d e r h => by
  cases d <;> cases e <;> first | exact ⟨_, _, rfl, rfl, trivial, (Option.some.inj h).symm⟩ | cases h
/-! pop -/
def sPop (i : Nat) (ρ : Evn) : RS := match ownAt i ρ with
  | some ds => (oS ds.getLast?).bind fun _ => .ok (.nx, ρ.set i (some (.own ds.dropLast)))
  | none => .bad
def sPopTo (i j : Nat) (ρ : Evn) : RS := match ownAt i ρ with
  | some ds => (oS ds.getLast?).bind fun d => .ok (.nx, (ρ.set i (some (.own ds.dropLast))).set j (some (.val d)))
  | none => .bad
theorem VdAll.dropLast {K : PySem.W.Frag} {F : Hp} {vs : List V} {ds : List PyData} (h : VdAll K F vs ds) : VdAll K F vs.dropLast ds.dropLast := by
  rw [List.dropLast_eq_take, List.dropLast_eq_take, h.length]
  exact h.take _
theorem rdPop {i : Nat} {ρ : Evn} {F H : Hp} {σ : Sg} {ds : List PyData} {a : Addr} {xs : List V} {d : PyData} (h6 : VdAll X.K F xs ds) (hl : ds.getLast? = some d) : ∃ y, xs[xs.length - 1]? = some y ∧ Vd X.K F y d := by
  rw [List.getLast?_eq_getElem?] at hl
  obtain ⟨y, h1, h2⟩ := h6.get hl
  rw [← h6.length] at h1
  exact ⟨y, h1, h2⟩
theorem vs_pop (i : Nat) {p : Pos} (hN : X.N[i]? = some x := by rfl) (hv : Vis X.env.scope x := by first | exact Or.inl rfl | exact Or.inr (Or.inl rfl) | exact Or.inr (Or.inr rfl)) (hd : (x == ("__debug__" : Str)) = false := by decide) (hcd : (x == ("__classdict__" : Str)) = false := by decide)
    (hbase : attributeBase (.Name x p) "pop" X.env (eval (.Name x p) X.env) = eval (.Name x p) X.env := by rfl) (hline : (apos.endLine == pos.line) = true := by rfl) (hsw : swapsWith (.Call (.Attribute (.Name x p) "pop" apos) [] [] pos) none spos.line X.env = pure false := by rfl) :
    VS X P (.Expr (.Call (.Attribute (.Name x p) "pop" apos) [] [] pos) spos) (sPop i) :=
  PS_mono (ps_expr (pe_bm0 PySem.F.plainAttrs_list PySem.F.slot_list_pop PySem.F.type_list_pop mt_pop (pe_var (i := i) hN hv hd hcd) hbase hline) hsw) fun D σ H h => by
    obtain ⟨ρ, F, hR, h⟩ := h
    obtain ⟨a, xs, ds, q, h1, h2, h3, h4, h5, h6, h⟩ := rdOwn hR h
    refine ⟨_, h1, .inl ⟨rfl, _, SqL.of h4⟩, ?_⟩
    cases q2 : ds.getLast? with
    | none => rw [q2] at h; exact h.elim
    | some d =>
      rw [q2] at h
      obtain ⟨y, hy, _⟩ := rdPop (i := i) (ρ := ρ) (H := H) (σ := σ) (a := a) h6 q2
      exact ⟨_, _, y, rfl, rfl, h4, hy, h σ _ F (Same.refl _) (hR.mutate q h1 h2 h3 (by rw [List.length_dropLast]; omega) h6.dropLast)⟩
theorem vs_popTo (i j : Nat) {y : Str} {p py : Pos} (nd : X.N.Nodup) (hN : X.N[i]? = some x := by rfl) (hj : X.N[j]? = some y := by rfl) (hij : i ≠ j := by decide) (hv : Vis X.env.scope x := by first | exact Or.inl rfl | exact Or.inr (Or.inl rfl) | exact Or.inr (Or.inr rfl)) (hd : (x == ("__debug__" : Str)) = false := by decide) (hcd : (x == ("__classdict__" : Str)) = false := by decide)
    (hbase : attributeBase (.Name x p) "pop" X.env (eval (.Name x p) X.env) = eval (.Name x p) X.env := by rfl) (hline : (apos.endLine == pos.line) = true := by rfl) (hy : Loc X.env.scope y := by first | exact Or.inl rfl | exact Or.inr rfl) (hsw : swapsWith (.Call (.Attribute (.Name x p) "pop" apos) [] [] pos) (some (.Name y py)) spos.line X.env = pure false := by rfl) (hf : X.fn y = true ∨ X.env.scope.names.lookup y = some .local := by first | exact .inl rfl | exact .inr rfl) :
    VS X P (.Assign [.Name y py] (.Call (.Attribute (.Name x p) "pop" apos) [] [] pos) spos) (sPopTo i j) :=
  PS_mono (ps_set nd hj hy (pe_bm0 PySem.F.plainAttrs_list PySem.F.slot_list_pop PySem.F.type_list_pop mt_pop (pe_var (i := i) hN hv hd hcd) hbase hline) hsw hf) fun D σ H h => by
    obtain ⟨ρ, F, hR, h⟩ := h
    obtain ⟨a, xs, ds, q, h1, h2, h3, h4, h5, h6, h⟩ := rdOwn hR h
    refine ⟨_, h1, .inl ⟨rfl, _, SqL.of h4⟩, ?_⟩
    cases q2 : ds.getLast? with
    | none => rw [q2] at h; exact h.elim
    | some d =>
      rw [q2] at h
      obtain ⟨y, hy, hyv⟩ := rdPop (i := i) (ρ := ρ) (H := H) (σ := σ) (a := a) h6 q2
      exact ⟨_, _, y, rfl, rfl, h4, hy, h _ _ F (Same.refl _) ((hR.mutate q h1 h2 h3 (by rw [List.length_dropLast]; omega) h6.dropLast).setVal hyv)⟩
end

/-! ### fresh lists -/
section
variable {X : Cx} {P : Pm} {pos p p2 p3 : Pos} {e k a b : Expr} {es : List Expr} {fe fk fa fb : Evn → RE PyData} {g : Evn → RE (List PyData)} {x : Str}
theorem OutF.first {σ : Sg} {F H : Hp} {ρ : Evn} {f : Evn → RE PyData} {k : PyData → RE (List PyData)} {Q Q' : VK} (hR : Rep X.K P ρ F σ H) (h : OutF X P σ Q F H ((f ρ).bind k))
    (hq : ∀ d v F1 H1, Ext F H F1 H1 → Vd X.K F1 v d → Rep X.K P ρ F1 σ H1 → OutF X P σ Q F1 H1 (k d) → Q' v H1) : tV X P f σ H Q' := by
  refine ⟨ρ, F, hR, ?_⟩
  refine R.post_mono (R.post_bind h) (fun d q v H' F' e hv => hq d v F' H' e hv (hR.step e) ?_) (fun c _ q => q)
  exact R.post_mono q (fun ds q p xs H2 F2 e2 n f h1 hz hv => q p xs H2 F2 (e.trans e2) (e.hh.free n) f h1 hz hv) (fun c _ q C H2 F2 hm e2 => q C H2 F2 hm (e.trans e2))
theorem OutF.firstA {σ : Sg} {F H : Hp} {ρ : Evn} {f : Evn → RE (List PyData)} {k : List PyData → RE (List PyData)} {Q : VK} {Q' : List V → Hp → Prop} (hR : Rep X.K P ρ F σ H) (h : OutF X P σ Q F H ((f ρ).bind k))
    (hq : ∀ d v F1 H1, Ext F H F1 H1 → VdAll X.K F1 v d → Rep X.K P ρ F1 σ H1 → OutF X P σ Q F1 H1 (k d) → Q' v H1) : tAV X P f σ H Q' := by
  refine ⟨ρ, F, hR, ?_⟩
  refine R.post_mono (R.post_bind h) (fun d q v H' F' e hv => hq d v F' H' e hv (hR.step e) ?_) (fun c _ q => q)
  exact R.post_mono q (fun ds q p xs H2 F2 e2 n f h1 hz hv => q p xs H2 F2 (e.trans e2) (e.hh.free n) f h1 hz hv) (fun c _ q C H2 F2 hm e2 => q C H2 F2 hm (e.trans e2))
/-- a new list, as a fresh result -/
theorem OutF.new {σ : Sg} {F H : Hp} {Q : VK} {xs : List V} {ds : List PyData} (sf : Same F H) (h : OutF X P σ Q F H (.ok ds)) (hz : xs.length ≤ sizeLine) (hv : VdAll X.K F xs ds) : ∀ p, H p = none → Q (.ref p) (upd H p (.lst xs)) :=
  fun p n => h p xs _ F (Ext.beside sf n) n (sf.free n) upd_same hz hv
def mDsp (g : Evn → RE (List PyData)) (ρ : Evn) : RE (List PyData) := (g ρ).bind fun ds => if ds.length ≤ sizeLine then .ok ds else .bad
theorem vf_lst (h : VA X P es g) : VF X P (.List es pos) (mDsp g) := PE_mono (pe_lst h) fun σ H Q h => by
  obtain ⟨ρ, F, hR, h⟩ := h
  refine OutF.firstA hR h fun ds vs F1 H1 e1 hv R1 h1 => ?_
  have hl := hv.length
  by_cases hz : ds.length ≤ sizeLine
  · rw [if_pos hz] at h1
    exact ⟨by omega, OutF.new R1.fh h1 (by omega) hv⟩
  · rw [if_neg hz] at h1; exact h1.elim
/-- [a, ..] * n -/
def repOk (m : Nat) (k : Int) : Prop := -(2 ^ 63) ≤ k ∧ k < 2 ^ 63 ∧ m * k.toNat ≤ sizeLine
instance (m : Nat) (k : Int) : Decidable (repOk m k) := by unfold repOk; exact inferInstance
def pRep (ds : List PyData) : PyData → RE (List PyData)
  | .int k => if repOk ds.length k then .ok (List.replicate k.toNat ds).flatten else .bad
  | _ => .bad
def mRep (g : Evn → RE (List PyData)) (f : Evn → RE PyData) (ρ : Evn) : RE (List PyData) := (mDsp g ρ).bind fun ds => (f ρ).bind (pRep ds)
theorem vf_rep (h : VA X P es g) (hk : VE X P k fk) : VF X P (.BinOp (.List es p2) .Mult k pos) (mRep g fk) := PE_mono (pe_op op_rep (pe_lst h) hk) fun σ H Q h => by
  obtain ⟨ρ, F, hR, h⟩ := h
  have h' : OutF X P σ Q F H ((g ρ).bind fun ds => (if ds.length ≤ sizeLine then .ok ds else .bad : RE (List PyData)).bind fun ds => (fk ρ).bind (pRep ds)) := by
    have e : mRep g fk ρ = (g ρ).bind fun ds => (if ds.length ≤ sizeLine then .ok ds else .bad : RE (List PyData)).bind fun ds => (fk ρ).bind (pRep ds) := by
      unfold mRep mDsp; rw [bind_assoc]
    rw [← e]; exact h
  refine OutF.firstA hR h' fun ds vs F1 H1 e1 hv R1 h1 => ?_
  have hl := hv.length
  by_cases hz : ds.length ≤ sizeLine
  case neg => rw [if_neg hz] at h1; exact h1.elim
  rw [if_pos hz] at h1
  refine ⟨by omega, fun l hn => ?_⟩
  have f1 := R1.fh.free hn
  have e2 : Ext F1 H1 F1 (upd H1 l (.lst vs)) := Ext.beside R1.fh hn
  have h2 : OutF X P σ Q F1 (upd H1 l (.lst vs)) ((fk ρ).bind (pRep ds)) :=
    R.post_mono h1 (fun ds q p xs H2 F2 e3 n f h1 hz hv => q p xs H2 F2 (e2.trans e3) (e2.hh.free n) f h1 hz hv) (fun c _ q C H2 F2 hm e3 => q C H2 F2 hm (e2.trans e3))
  refine OutF.first (R1.step e2) h2 fun d v F2 H2 e3 hv2 R2 h3 => ?_
  cases hv2 with
  | int i =>
    have h3' : OutF X P σ Q F2 H2 (if repOk ds.length i then .ok (List.replicate i.toNat ds).flatten else .bad) := h3
    by_cases hr : repOk ds.length i
    · rw [if_pos hr] at h3'
      refine ⟨l, i, vs, rfl, rfl, e3.hh l _ upd_same, hr.1, hr.2.1, by rw [hl]; exact hr.2.2, ?_⟩
      refine OutF.new R2.fh h3' ?_ ((VdAll.mono e3.ff _ _ hv).rep _)
      rw [PyProof.Rows.lm_len_rep_flat, hl, Nat.mul_comm]; exact hr.2.2
    · rw [if_neg hr] at h3'; exact h3'.elim
  | _ => exact h3.elim
/-- list(x) -/
def pLst : PyData → RE (List PyData)
  | .list ds => .ok ds
  | .tuple ds => .ok ds
  | _ => .bad
def mBind (f : Evn → RE PyData) (k : PyData → RE (List PyData)) (ρ : Evn) : RE (List PyData) := (f ρ).bind k
theorem vf_list (hg : Gl X "list") (hm : X.mg "list" = none) (ha : VE X P e fe) (he : starEach (e :: []) X.env = (false, eval e X.env) :: starEach [] X.env := by rfl) (hpl : (backTo pos (starEach [] X.env)).any (·.1) = false := by rfl) :
    VF X P (.Call (.Name "list" p) [e] [] pos) (mBind fe pLst) := PE_mono (pe_callTy call_list_of hg hm (by decide +kernel) (pa_cons ha pa_nil he) (he := he) (hpl := hpl)) fun σ H Q h => by
  obtain ⟨ρ, F, hR, h⟩ := h
  refine OutF.first hR h fun d v F1 H1 e1 hv R1 h1 => ?_
  cases hv with
  | lst hs hz ha => exact ⟨_, _, rfl, .inl (R1.fh.seq hs), OutF.new R1.fh h1 hz ha⟩
  | tup hs hz ha => exact ⟨_, _, rfl, .inr (same_sqT R1.fh hs), OutF.new R1.fh h1 hz ha⟩
  | _ => exact h1.elim
end
end PV
end
section
set_option Elab.async false
set_option linter.all false
set_option maxRecDepth 100000
set_option maxHeartbeats 4000000
namespace PV
open PySem PySem.Spec PyProof.Rows L2

/-! ### x[k], x a name that may hold its own list -/
def mIxO (i : Nat) (fk : Evn → RE PyData) (ρ : Evn) : RE PyData := match ρ[i]? with
  | some (some (.own ds)) => (fk ρ).bind fun k => ofO (pIdx (.list ds) k)
  | some (some (.val d)) => (fk ρ).bind fun k => ofO (pIdx d k)
  | _ => .bad
section
variable {X : Cx} {P : Pm} {pos p : Pos} {k : Expr} {fk : Evn → RE PyData} {x : Str}
theorem ve_ixO (i : Nat) (hk : VE X P k fk) (hN : X.N[i]? = some x := by rfl) (hv : Vis X.env.scope x := by first | exact Or.inl rfl | exact Or.inr (Or.inl rfl) | exact Or.inr (Or.inr rfl)) (hs : PlainIx k := by first | exact (fun _ _ => rfl) | (intro _ _; rfl)) (hd : (x == ("__debug__" : Str)) = false := by decide) (hcd : (x == ("__classdict__" : Str)) = false := by decide) :
    VE X P (.Subscript (.Name x p) k pos) (mIxO i fk) := PE_mono (pe_ix (ix_list.or ix_all) (pe_var (i := i) hN hv hd hcd) hk hs) fun σ H Q h => by
  obtain ⟨ρ, F, hR, h⟩ := h
  unfold mIxO at h
  split at h
  · rename_i ds q
    obtain ⟨a, xs, h1, h2, h3, h4, h5, h6⟩ := hR.own q
    refine ⟨_, h1, ?_⟩
    refine Out.first hR h fun kd kv F1 H1 e1 hkv R1 h9 => ?_
    obtain ⟨xs', g3, g4, g5, g6⟩ := R1.own_at q h1
    obtain ⟨r, hr, hq⟩ := h9.ofO
    cases hkv with
    | int j =>
      obtain ⟨v, w1, w2⟩ := g6.at (i := j) hr
      exact .inl ⟨a, xs', j, v, rfl, rfl, SqL.of g4, w1, hq v H1 F1 (Ext.refl R1.fh) w2⟩
    | _ => cases hr
  · rename_i d q
    obtain ⟨v, h1, h2⟩ := hR.slot i _ q
    refine ⟨v, h1, ?_⟩
    refine Out.first hR h fun kd kv F1 H1 e1 hkv R1 h9 => ?_
    obtain ⟨r, hr, hq⟩ := h9.ofO
    exact .inr ⟨F1, d, kd, r, R1.fh, Vd.mono e1.ff d v h2, hkv, hr, hq⟩
  · exact h.elim
end

/-! ### defs by name -/
abbrev FnP (K : PySem.W.Frag) (x : Str) (st : Stmt) (f : Addr) (fd : FuncData) : Prop := FunD K x x (defArgs st) (defBody st) (defScope st) [] [] f fd
/-- what a caller leans on -/
structure Cal (P : Program) (w : World) (K : PySem.W.Frag) (mg : Str → Option Value) (base : Heap) (k : Nat) (x : Str) (ps : List Str) (sem : List PyData → RE PyData) : Prop where
  ex : ∃ f fd, FnV P w K mg base k f fd ps sem ∧ mg x = some (.ref f) ∧ PySem.W.keepIn K (.ref f) = true ∧ Binds K fd ps []
section
variable {X : Cx} {P : Pm} {pos p : Pos} {e : Expr} {es : List Expr} {fa : Evn → RE (List PyData)} {sem : List PyData → RE PyData} {x : Str} {k j : Nat} {ps : List Str}
theorem ve_cal (c : Cal X.prog X.w X.K X.mg X.base k x ps sem) (hr : Room j X.A) (tk : Takes X P.W) (ha : VA X P (e :: es) fa) (hkj : k ≤ j := by first | decide | omega) (hg : Gl X x := by rfl) (hdb : (x == ("__debug__" : Str)) = false := by decide)
    (he : starEach (e :: es) X.env = (false, eval e X.env) :: starEach es X.env := by rfl) (hpl : (backTo pos (starEach es X.env)).any (·.1) = false := by rfl) :
    VE X P (.Call (.Name x p) (e :: es) [] pos) (mSeq sem fa) := by
  obtain ⟨f, fd, F, hm, hk, hb⟩ := c.ex
  exact ve_call F (hr.mono hkj) hg hm hk hb tk ha hdb he hpl
theorem ve_cal0 (c : Cal X.prog X.w X.K X.mg X.base k x ps sem) (hr : Room j X.A) (tk : Takes X P.W) (hkj : k ≤ j := by first | decide | omega) (hg : Gl X x := by rfl) (hdb : (x == ("__debug__" : Str)) = false := by decide) :
    VE X P (.Call (.Name x p) [] [] pos) (fun _ => sem []) := by
  obtain ⟨f, fd, F, hm, hk, hb⟩ := c.ex
  exact ve_call0 F (hr.mono hkj) hg hm hk hb tk hdb
end
section
variable {P : Program} {w : World} {K : PySem.W.Frag} {mg : Str → Option Value} {base : Heap}
theorem FnV.ofP {x : Str} {st : Stmt} {f : Addr} {fd : FuncData} {N ps : List Str} {k : Nat} {body : Evn → RS} (F : FnP K x st f fd) (S : FnScope N ps (defScope st))
    (hbody : ∀ (cdv : Value) (A : Around) (outer : List Env) (s : Shared) (H : Hp) (E : XK) (F0 : Hp), Room k (A.deeper (envOfC x (defScope st) s.heap.objs.size f cdv)) →
      VSs (cxOf (L2.CX P w) P w K mg base N x (defScope st) f cdv A outer s H E) ⟨H, F0, wE E, none⟩ (defBody st) body) :
    FnV P w K mg base (k + 1) f fd ps (fnM ps.length N.length body) := by
  refine ⟨F.ok S (fun vs H Q E h => ?_) (fun cdv A outer s H vs Q E hr h => ?_), fun ds h => fnM_ar h⟩
  · obtain ⟨F0, ds, _, hv, hl, _⟩ := h
    rw [hv.length, hl]
  · obtain ⟨F0, ds, sf, hv, hl, hp⟩ := h
    refine ⟨_, hbody cdv A outer s H E F0 hr, startE N.length ds, F0, rep_start sf hv, ?_⟩
    unfold fnM at hp
    rw [if_pos hl] at hp
    unfold OutS
    cases q : body (startE N.length ds) with
    | ok p =>
      rw [q] at hp
      obtain ⟨fl, ρ'⟩ := p
      cases fl with
      | nx => exact fun σ' H' F' _ r => hp _ _ F' r.ext .non
      | bk => exact hp.elim
      | ct => exact hp.elim
      | rt d => exact fun v σ' H' F' _ r hv' => hp v H' F' r.ext hv'
    | exc c ρ' =>
      rw [q] at hp
      exact fun C σ' H' F' hm _ r => hp C H' F' hm r.ext
    | bad => rw [q] at hp; exact hp.elim
abbrev BindH (x : Str) (st : Stmt) (ps : List Str) : Prop := ∀ (kV doc pm : Value) (an : Option Addr) (cdv ct : Value) (us : List Value), us.length = ps.length → bindArgs (PySem.W.fnOf x x (defArgs st) (defBody st) (defScope st) .none kV doc pm an cdv ct) ⟨us, []⟩ = pure (ps.zip us)
theorem Cal.of {x : Str} {st : Stmt} {f : Addr} {fd : FuncData} {N ps : List Str} {k : Nat} {body : Evn → RS} (F : FnP K x st f fd) (gl : mg x = some (.ref f)) (S : FnScope N ps (defScope st)) (hb : BindH x st ps)
    (hbody : ∀ (cdv : Value) (A : Around) (outer : List Env) (s : Shared) (H : Hp) (E : XK) (F0 : Hp), Room k (A.deeper (envOfC x (defScope st) s.heap.objs.size f cdv)) →
      VSs (cxOf (L2.CX P w) P w K mg base N x (defScope st) f cdv A outer s H E) ⟨H, F0, wE E, none⟩ (defBody st) body) :
    Cal P w K mg base (k + 1) x ps (fnM ps.length N.length body) := ⟨⟨f, fd, FnV.ofP F S hbody, gl, F.kp, FunD.bindsN F hb⟩⟩
theorem Cal.none {x : Str} {st : Stmt} {f : Addr} {fd : FuncData} {ps : List Str} {k : Nat} (F : FnP K x st f fd) (gl : mg x = some (.ref f)) (hb : BindH x st ps) : Cal P w K mg base k x ps (fun _ => .bad) := ⟨⟨f, fd, FnV.bad, gl, F.kp, FunD.bindsN F hb⟩⟩
/-- within a block nothing is let out -/
theorem takesN {X : Cx} {P : Pm} : Takes X P.nx.W := fun _ _ ⟨_, _, _, _, _, _, _, _, _, _, _, _, _, _, _, _, w⟩ => w.elim
/-- the law's call -/
theorem law_end {n : Nat} {sem : List PyData → RE PyData} (hn : n ≤ sizeLine) (h : ∀ ns : List Int, ns.length ≤ n → sem [.list (ns.map .int)] = .ok (.bool true)) :
    ∀ (H : Hp) (a : Addr) (ns : List Int), ns.length ≤ n → SqL K H a (ns.map V.int) → SpV K mg 1 sem [.ref a] H (fun v _ => v = .bl true) fun _ _ _ => False := fun H a ns hl hs => by
  have hv : VdAll K H (ns.map V.int) (ns.map PyData.int) := by
    induction ns with
    | nil => exact .nil
    | cons i r ih =>
      have go : ∀ l : List Int, VdAll K H (l.map V.int) (l.map PyData.int) := fun l => by
        induction l with
        | nil => exact .nil
        | cons a b ih => exact .cons (.int a) ih
      exact go _
  refine ⟨H, _, Same.refl _, .cons (.lst hs (by rw [List.length_map]; omega) hv) .nil, rfl, ?_⟩
  rw [h ns hl]
  intro v H' F' _ hv'
  cases hv'
  rfl
end
end PV
end
section
set_option Elab.async false
set_option linter.all false
set_option maxRecDepth 100000
set_option maxHeartbeats 4000000
namespace PV
open PySem PySem.Spec PySem.Calls PyProof.Rows L2 RT

/-! ### list(reversed(xs)) -/
section
variable {prog : Program} {w : World} {A : Around} {E : Value → Shared → Prop} {s : Shared}
theorem extend_rev {Rz : Result → Shared → Prop} {it l : Addr} {items : Array Value} (hh : A.handled = none) (hit : s.heap.IsRevIter it l ((items.size : Int) - 1)) (hl : s.heap.IsList l items) (hne : l ≠ it) (hn : items.size ≤ sizeLine) (Sd : Addr) (res : Value) (cz : Nat)
    (hS : s.heap.get? Sd = some { cls := .type "list", data := .seq #[] cz }) (hSi : Sd ≠ it) (hSl : Sd ≠ l)
    (hR : ∀ h' tk acc' c', (∀ b o, b ≠ Sd → b ≠ it → s.heap.get? b = some o → h'.get? b = some o) → h'.get? Sd = some { cls := .type "list", dict := none, data := .seq acc' c', slots := #[] } →
      ItemsOf (fun i v => items[items.size - 1 - i]? = some v) acc' items.size → Rz (.ok (.ret res)) { s with heap := h', toks := tk }) :
    wpAny (model prog w) A.in1 (Builtin.List.listExtendWith (.ref Sd) (.ref it) res)
      (fun fin s' => match fin with | .done f => Rz (.ok f) s' | .again c' => c'.quiet = true ∧ codeAny (model prog w) A c' Rz s') (fun e s' => Rz (.error e) s') s := by
  have W := (Walks.listRev (prog := prog) (w := w) (A := A.in1) hh it l hne items).toS
  have hSf : Sd ∉ [it, l] := by simp only [List.mem_cons, List.not_mem_nil, or_false, not_or]; exact ⟨hSi, hSl⟩
  have hT : s.TypeIs (.ref it) "list_reverseiterator" := Heap.IsRevIter.typeIs hit
  have k1 : Builtin.List.listSameRef (.ref Sd) (.ref it) = false := by simp [Builtin.List.listSameRef, hSi]
  unfold Builtin.List.listExtendWith
  refine wpAny_bind (wpAny_typeOf hT ?_)
  rw [if_neg (by rw [k1]; decide)]
  refine wpAny_bind (wpAny_pyIter_revIter hit (wpAny_bind (wpAny_holding ?_)))
  unfold Builtin.List.listLengthHint
  refine wpAny_bind (wpAny_specialOf hT nolen_lri ?_)
  show wpAny _ _ (specialOf (Value.ref it) (Str.ofString "__length_hint__") >>= _) _ _ s
  refine wpAny_bind (wpAny_specialOf hT hint_lri ?_)
  generalize hid : ("list_reverseiterator.__length_hint__" : String) = idz
  wp_delta
  rw [show splitId idz = some ("list_reverseiterator", "__length_hint__") from by subst hid; decide +kernel]
  subst hid
  refine wpAny_bind (wpAny_isInstance (b := true) hT (by rw [isSubtype_type]; kernel_rfl) (wpAny_pure ?_))
  rw [if_neg (by decide)]
  have e0 : ((items.size : Nat) : Int) - 1 - ((0 : Nat) : Int) = (items.size : Int) - 1 := by omega
  refine wpAny_pure ⟨plainId_quiet PySem.F.plain_extend_loop _, codeAny_extend_loopS W hn Sd hSf res items.size 0 _ #[] cz rfl (Nat.zero_le _) ⟨Nat.zero_le _, by rw [e0]; exact hit, hl⟩ hS (ItemsOf.nil _) fun s' acc' c' hm hS' hacc => ?_⟩
  rw [Moved.eq_with hm]
  refine hR s'.heap s'.toks acc' c' (fun b o hb hb2 e => hm.heap b o (fun hmem => ?_) e) hS' hacc
  rcases List.mem_cons.mp hmem with e' | hmem
  · exact hb e'
  · exact hb2 (List.mem_singleton.mp hmem)
theorem call_list_rev {Q : Value → Shared → Prop} {it l : Addr} {items : Array Value} (hh : A.handled = none) (hit : s.heap.IsRevIter it l ((items.size : Int) - 1)) (hl : s.heap.IsList l items) (hne : l ≠ it) (hn : items.size ≤ sizeLine)
    (hQ : ∀ h' tk acc' c', (∀ b o, b ≠ it → s.heap.get? b = some o → h'.get? b = some o) → h'.get? s.heap.objs.size = some { cls := .type "list", dict := none, data := .seq acc' c', slots := #[] } →
      ItemsOf (fun i v => items[items.size - 1 - i]? = some v) acc' items.size → Q (.ref s.heap.objs.size) { s with heap := h', toks := tk }) :
    wpAny (model prog w) A (call (.type "list") [.ref it]) Q E s := by
  refine callType_codes (Q₁ := fun obj sz => obj = .ref s.heap.objs.size ∧ sz = { s with heap := s.heap.push { cls := .type "list", data := .seq #[] } }) PySem.F.called_list (PySem.F.typeCall_list_1 _) PySem.F.entry_list_init
    (code_list_new _ ⟨rfl, rfl⟩) fun obj sz hz => ?_
  obtain ⟨rfl, rfl⟩ := hz
  have hS : (s.heap.push { cls := .type "list", data := .seq #[] }).get? s.heap.objs.size = some { cls := .type "list", data := .seq #[] } := Heap.get?_push_size _ rfl
  obtain ⟨oi, hoi, _⟩ := id hit
  obtain ⟨ol, hol, _⟩ := id hl
  have ni : s.heap.objs.size ≠ it := Nat.ne_of_gt (Heap.lt_size hoi)
  have nl : s.heap.objs.size ≠ l := Nat.ne_of_gt (Heap.lt_size hol)
  refine ⟨⟨_, hS, rfl⟩, PySem.F.args_list_init_2 _ _, ?_⟩
  generalize hSd : s.heap.objs.size = Sd at *
  show wpAny _ _ (do let old ← Builtin.List.listItems (.ref Sd); Builtin.List.listUpdate (.ref Sd) (fun _ => #[]); letGo old.toList.reverse; Builtin.List.listExtendWith (.ref Sd) (.ref it) .none) _ _ _
  refine wpAny_bind ?_
  unfold Builtin.List.listItems
  refine wpAny_bind (wpAny_seqItems hS rfl (wpAny_pure ?_))
  show wpAny _ _ (updateSeq Sd (fun _ => #[]) >>= fun _ => letGo (#[] : Array Value).toList.reverse >>= fun _ => Builtin.List.listExtendWith (.ref Sd) (.ref it) .none) _ _ _
  refine wpAny_bind (wpAny_updateSeq hS rfl ?_)
  have hS2 := Heap.get?_update_self (Obj.mapSeq (fun _ => (#[] : Array Value))) hS rfl
  have oth : ∀ b o, b ≠ Sd → (s.heap.push { cls := .type "list", data := .seq #[] }).get? b = some o → ((s.heap.push { cls := .type "list", data := .seq #[] }).update Sd (Obj.mapSeq (fun _ => (#[] : Array Value)))).get? b = some o :=
    fun b o hb e => (Heap.get?_update_other _ _ (Ne.symm hb)).trans e
  refine wpAny_bind (wpAny_letGo ?_)
  refine extend_rev (A := A.in1) hh (hit.at fun o e => oth _ _ (Ne.symm ni) (Heap.get?_push_of_some _ e)) ?_ hne hn Sd .none _ hS2 ni nl fun h' tk acc' c' hk hS' hacc => ?_
  · obtain ⟨o, ho, r⟩ := hl
    exact ⟨o, oth _ _ (Ne.symm nl) (Heap.get?_push_of_some _ ho), r⟩
  · exact ⟨rfl, hQ h' tk acc' c' (fun b o hb e => hk b o (by rw [← hSd]; exact Nat.ne_of_lt (Heap.lt_size e)) hb (oth b o (by rw [← hSd]; exact Nat.ne_of_lt (Heap.lt_size e)) (Heap.get?_push_of_some _ e))) hS' hacc⟩
end
section
variable {X : Cx} {P : Pm} {pos p pos2 p2 : Pos} {e : Expr} {fe : Evn → RE PyData}
def pRevL : PyData → RE (List PyData)
  | .list ds => .ok ds.reverse
  | _ => .bad
theorem vf_listrev (hg : Gl X "list") (hm : X.mg "list" = none) (hg2 : Gl X "reversed") (hm2 : X.mg "reversed" = none) (he : VE X P e fe) (hc : X.calm = true := by rfl)
    (hs : starEach [e] X.env = (false, eval e X.env) :: starEach [] X.env := by rfl)
    (hs2 : starEach [.Call (.Name "reversed" p2) [e] [] pos2] X.env = (false, eval (.Call (.Name "reversed" p2) [e] [] pos2) X.env) :: starEach [] X.env := by rfl) :
    VF X P (.Call (.Name "list" p) [.Call (.Name "reversed" p2) [e] [] pos2] [] pos) (mBind fe pRevL) := by
  have key : PE X (.Call (.Name "list" p) [.Call (.Name "reversed" p2) [e] [] pos2] [] pos) (fun σ H Q => tV X P fe σ H fun v H1 => ∃ (a : Addr) (xs : List V), v = .ref a ∧ SqL X.K H1 a xs ∧ ∀ q, H1 q = none → Q (.ref q) (upd H1 q (.lst xs.reverse))) := by
    refine ⟨fun pins s σ H Q I h => ?_⟩
    refine Call_ (ld_blt I hg hm (show bootBuiltins "list" = some (.type "list") by decide +kernel) (PyProof.Rows.callWith_type1 (args_cons (Call_ (ld_blt I hg2 hm2 PyProof.Rows.boot_reversed (PyProof.Rows.callWith_type1 (args_cons (thn (PE.run he pins s σ H _ I h) fun u s1 ⟨v, H1, I1, r1, q1⟩ => args_nil ?_) hs) hs rfl))) hs2) hs2 rfl))
    obtain ⟨a, xs, ev, hq, q⟩ := q1
    subst ev
    cases (show u = Value.ref a from r1)
    obtain ⟨its, rv, pl, hz⟩ := I1.list hq
    refine call_reversed_list pl.isList (args_nil ?_)
    have k0 : ∀ b o, s1.heap.get? b = some o → (s1.heap.push (revObj a ((its.toArray.size : Int) - 1))).get? b = some o := fun b o e => Heap.get?_push_of_some _ e
    have hl := pl.isList
    obtain ⟨ol, hol, _⟩ := id hl
    have hne : a ≠ s1.heap.objs.size := Nat.ne_of_lt (Heap.lt_size hol)
    have hn : its.toArray.size ≤ sizeLine := by rw [List.size_toArray, ← rv.length]; exact hz
    refine call_list_rev (s := { s1 with heap := s1.heap.push (revObj a ((its.toArray.size : Int) - 1)) }) (I1.ok.hd hc) ⟨_, Heap.get?_push_size _ rfl, rfl, rfl⟩ (hl.push _) hne hn fun h' tk acc c' hk hS hi => ?_
    have hsz : (s1.heap.push (revObj a ((its.toArray.size : Int) - 1))).objs.size = s1.heap.objs.size + 1 := Heap.size_push _ _
    have hN : H1 (s1.heap.objs.size + 1) = none := I1.hok.fresh (Nat.le_succ _)
    rw [hsz] at hS
    have J := I1.laid (a := s1.heap.objs.size + 1) (o := .lst xs.reverse) (t' := tk) (fun b o e => hk b o (Nat.ne_of_lt (Heap.lt_size e)) (k0 b o e)) (Nat.le_succ _)
      (show ObjOk X.prog X.w _ h' _ (.lst xs.reverse) from ⟨by rw [List.length_reverse]; exact hz, acc.toList, c', vals_rev rv hi, by rw [Array.toArray_toList]; exact hS⟩)
    show EP X pins σ Q (.ref (s1.heap.push (revObj a ((its.toArray.size : Int) - 1))).objs.size) _
    rw [hsz]
    exact ⟨.ref (s1.heap.objs.size + 1), _, J, rfl, q _ hN⟩
  refine PE_mono key fun σ H Q h => ?_
  obtain ⟨ρ, F, hR, h⟩ := h
  refine OutF.first hR h fun d v F1 H1 e1 hv R1 h1 => ?_
  cases hv with
  | lst hs hz ha => exact ⟨_, _, rfl, R1.fh.seq hs, OutF.new R1.fh h1 (by rw [List.length_reverse]; exact hz) ha.reverse⟩
  | _ => exact h1.elim
end
end PV
end
section
set_option Elab.async false
set_option linter.all false
set_option maxRecDepth 100000
set_option maxHeartbeats 4000000
namespace PV
open PySem PySem.Spec PySem.Calls PyProof.Rows L2

/-! ### in -/
def inOk (d : PyData) (ds : List PyData) : Prop := d.depth ≤ 60 ∨ PyData.depthAll ds ≤ 60
instance (d : PyData) (ds : List PyData) : Decidable (inOk d ds) := by unfold inOk; exact inferInstance
def inD (d : PyData) (ds : List PyData) : Bool := ds.any fun y => PyData.eqv y d
def pIn : PyData → PyData → Option PyData
  | d, .list ds => if inOk d ds then some (.bool (inD d ds)) else none
  | d, .tuple ds => if inOk d ds then some (.bool (inD d ds)) else none
  | .str i, .str j => some (.bool (!(Builtin.Str.occurrences j i 0 j.length 1).isEmpty))
  | _, _ => none
def pNotIn : PyData → PyData → Option PyData
  | d, .list ds => if inOk d ds then some (.bool (!inD d ds)) else none
  | d, .tuple ds => if inOk d ds then some (.bool (!inD d ds)) else none
  | .str i, .str j => some (.bool (!!(Builtin.Str.occurrences j i 0 j.length 1).isEmpty))
  | _, _ => none
section
variable {X : Cx}
theorem opv_in {k : Nat} (hr : Room k X.A) : OpV X (compareOp .In) pIn := by
  intro pins s σ H x y v u Q I rx ry F d e r sf hx hy hg hq
  have hu := hr.units
  have hun := hr.un
  have hx' := Vd.dp d x (Vd.mono sf d x hx)
  have hy' := Vd.dp e y (Vd.mono sf e y hy)
  obtain ⟨as, r1⟩ := Dp.reads I d x v hx'.1 rx
  obtain ⟨bs, r2⟩ := Dp.reads I e y u hy'.1 ry
  unfold pIn at hg
  split at hg
  · obtain ⟨hp, rfl⟩ := some_of_if hg
    exact SeqAt.in_list_reads r2 r1 (by simpa only [PyData.canLay0] using hy'.2) hx'.2 (by rcases hp with h | h <;> omega) ⟨.bl _, H, I, rfl, hq _ _ F (Ext.refl sf) (.bl _)⟩
  · obtain ⟨hp, rfl⟩ := some_of_if hg
    exact SeqAt.in_tuple_reads r2 r1 (by simpa only [PyData.canLay0] using hy'.2) hx'.2 (by rcases hp with h | h <;> omega) ⟨.bl _, H, I, rfl, hq _ _ F (Ext.refl sf) (.bl _)⟩
  · cases hg
    cases hx
    cases hy
    exact op_in_str pins s σ H _ _ v u Q I rx ry ⟨_, _, rfl, rfl, hq _ _ F (Ext.refl sf) (.bl _)⟩
  · cases hg
theorem opv_notin {k : Nat} (hr : Room k X.A) : OpV X (compareOp .NotIn) pNotIn := by
  intro pins s σ H x y v u Q I rx ry F d e r sf hx hy hg hq
  have hu := hr.units
  have hun := hr.un
  have hx' := Vd.dp d x (Vd.mono sf d x hx)
  have hy' := Vd.dp e y (Vd.mono sf e y hy)
  obtain ⟨as, r1⟩ := Dp.reads I d x v hx'.1 rx
  obtain ⟨bs, r2⟩ := Dp.reads I e y u hy'.1 ry
  unfold pNotIn at hg
  split at hg
  · obtain ⟨hp, rfl⟩ := some_of_if hg
    exact SeqAt.notIn_list_reads r2 r1 (by simpa only [PyData.canLay0] using hy'.2) hx'.2 (by rcases hp with h | h <;> omega) ⟨.bl _, H, I, rfl, hq _ _ F (Ext.refl sf) (.bl _)⟩
  · obtain ⟨hp, rfl⟩ := some_of_if hg
    exact SeqAt.notIn_tuple_reads r2 r1 (by simpa only [PyData.canLay0] using hy'.2) hx'.2 (by rcases hp with h | h <;> omega) ⟨.bl _, H, I, rfl, hq _ _ F (Ext.refl sf) (.bl _)⟩
  · cases hg
    cases hx
    cases hy
    exact op_notin_str pins s σ H _ _ v u Q I rx ry ⟨_, _, rfl, rfl, hq _ _ F (Ext.refl sf) (.bl _)⟩
  · cases hg
end

/-! ### sorted -/
/-- the order of alike data -/
def leD (a b : PyData) : Bool := !PySem.W.dataLt b a
def sortOk (ds : List PyData) : Prop := PySem.W.AllAlike ds ∧ PySem.W.Sortable ds ∧ ∀ d ∈ ds, d.depth ≤ 60
open Classical in
noncomputable def bSorted : List PyData → Option PyData
  | [.list ds] => if sortOk ds then some (.list (ds.mergeSort leD)) else none
  | [.tuple ds] => none
  | _ => none
section
variable {X : Cx}
theorem vals_each : ∀ {xs : List V} {us : List Value} {ds : List PyData} {F : Hp}, Vals xs us → VdAll X.K F xs ds → PySem.W.EachIs (fun (v : Value) (b : V × PyData) => RelV b.1 v ∧ Vd X.K F b.1 b.2) us (xs.zip ds)
  | _, _, _, _, .nil, .nil => .nil
  | _, _, _, _, .cons r t, .cons h t' => .cons ⟨r, h⟩ (vals_each t t')
theorem each_vals {F : Hp} : ∀ {us : List Value} {zs : List (V × PyData)}, PySem.W.EachIs (fun (v : Value) (b : V × PyData) => RelV b.1 v ∧ Vd X.K F b.1 b.2) us zs → Vals (zs.map (·.1)) us ∧ VdAll X.K F (zs.map (·.1)) (zs.map (·.2))
  | _, _, .nil => ⟨.nil, .nil⟩
  | _, _, .cons r t => ⟨.cons r.1 (each_vals t).1, .cons r.2 (each_vals t).2⟩
theorem zip_snd {F : Hp} : ∀ {xs : List V} {ds : List PyData}, VdAll X.K F xs ds → (xs.zip ds).map (·.2) = ds
  | _, _, .nil => rfl
  | _, _, .cons _ t => by rw [List.zip_cons_cons, List.map_cons, zip_snd t]
theorem cb_sorted {k : Nat} (hr : Room k X.A) : CallR X (.builtin "sorted") (rCV X bSorted) := by
  intro pins s σ H xs us Q I r h
  obtain ⟨F, ds, d, sf, hv, hg, hq⟩ := h
  unfold bSorted at hg
  split at hg
  · rename_i es
    by_cases hp : sortOk es
    case neg => rw [if_neg hp] at hg; cases hg
    rw [if_pos hp] at hg
    cases hg
    obtain ⟨v, rfl, h1⟩ := vd1 hv
    cases h1 with
    | @lst a ys _ hs hz ha =>
      rw [Vals.ref1 r]
      obtain ⟨its, rv, hl, hz'⟩ := I.list (sf.seq hs)
      have hmap : (ys.zip es).map (fun b : V × PyData => b.2) = es := zip_snd ha
      have hun := hr.un
      have ev := vals_each rv ha
      have hlen : (ys.zip es).length = es.length := by rw [← hmap, List.length_map, hmap]
      refine PySem.W.sorted_data (β := V × PyData) (enc := fun b => b.2) (vs := its) (bs := ys.zip es) hl.isList ev ?_ (by rw [hmap]; exact hp.1) (by rw [hmap]; exact hp.2.1) (by rw [hlen, ← ha.length]; exact hz) (fun b hb => ?_) fun out ho eo => ?_
      · refine ev.mono fun u b ⟨q1, q2⟩ => ?_
        exact Dp.reads I b.2 b.1 u (Vd.dp b.2 b.1 (Vd.mono sf b.2 b.1 q2)).1 q1
      · have hm : b.2 ∈ es := by rw [← hmap]; exact List.mem_map.mpr ⟨b, hb, rfl⟩
        have := hp.2.2 b.2 hm
        omega
      · obtain ⟨k1, k2⟩ := each_vals eo
        obtain ⟨ep, he'⟩ := PyProof.Rows.sortedAll_at s.heap its out.toArray
        have hsort : ((ys.zip es).mergeSort (PySem.W.dataLe false fun b : V × PyData => b.2)).map (·.2) = es.mergeSort leD := by
          have := PySem.W.sort_maps (r := PySem.W.dataLe false fun b : V × PyData => b.2) (s := leD) (fun b : V × PyData => b.2) (l := ys.zip es) fun a _ b _ => rfl
          rw [this, hmap]
        have hz2 : (((ys.zip es).mergeSort (PySem.W.dataLe false fun b : V × PyData => b.2)).map (·.1)).length ≤ sizeLine := by
          rw [List.length_map, List.length_mergeSort, hlen, ← ha.length]; exact hz
        rw [hsort] at k2
        refine ⟨.ref _, upd H (s.heap.objs.size + 1) (.lst _), I.laid (t' := s.toks) (fun _ _ => PyProof.Rows.sortedAll_old) (Nat.le_succ _) ⟨hz2, out, ep, k1, he'⟩, rfl, ?_⟩
        exact new_lst sf hz2 k2 hq _ (I.hok.fresh (Nat.le_succ _))
  · cases hg
  · cases hg
end
/-- the law's end, what may be let out hanging on the world -/
theorem walk_world {l : PySem.W.OpenLaw} {n k : Nat} {q : Program} {loose : List Str} {XP : (Str → Option Value) → Heap → Prop} {YP : World → Heap → Prop} {dr : DefRec} {x : Str} (hn : l.most = some n) (hn2 : n ≤ sizeLine) (hdf : dr.params.defaults = []) (hr : Room k callerA)
    (Fz : ∀ (w : World) (mg : Str → Option Value) (fa : Addr) (h : Heap), YP w h → h.Ns mainGlobals mg → mg dr.name = some (.ref fa) →
      ∃ (K : PySem.W.Frag) (fd : FuncData) (sp : Sp), K.In h ∧ (∀ (s : Shared) (u : Value), BindsTo s fd ⟨[u], []⟩ [(x, u)]) ∧
        (∀ (H : Hp) (a : Addr) (ns : List Int), ns.length ≤ n → SqL K H a (ns.map V.int) → sp [.ref a] H (fun v _ => v = .bl true) fun _ _ _ => False) ∧
        ∀ base : Heap, K.In base → base.Ns mainGlobals mg → FnOk l.prog w K mg base (L2.CX l.prog w) k fa fd [x] sp) :
    PySem.W.WalkO q loose XP YP l.row.toRowW dr [] (fun f vs => PySem.call f vs) := by
  refine Att.attach_call hn hdf fun w s₀ s₁ mg mb fa o pm cd doc a vs ns G Y ho hd hcd hmg hobj hints hlen hg => ?_
  obtain ⟨K, fd, sp, KX, hb, hsp, hF⟩ := Fz w mg fa _ Y G.T.g hmg
  refine law_call KX G.T.g G.T.b G.T.builtins G.T.nolimit hg hobj hints (Nat.le_trans hlen hn2) hr hF hb (fun H _ hS => hsp H a ns hlen hS) fun H e s' z => ?_
  obtain ⟨_, _, _, _, _, _, _, _, _, _, _, _, z⟩ := z
  exact z.elim
end PV
end
section
set_option Elab.async false
set_option linter.all false
set_option maxRecDepth 100000
set_option maxHeartbeats 4000000
namespace PV
open PySem

/-! ### meanings, reckoned -/
theorem nr {α : Sort _} {a b : α} (h : a = b) : a = b := h
@[simp] theorem bind_ok {ε α β : Type} (a : α) (f : α → R ε β) : R.bind (.ok a) f = f a := nr rfl
@[simp] theorem bind_bad {ε α β : Type} (f : α → R ε β) : R.bind (.bad) f = .bad := nr rfl
@[simp] theorem bind_exc {ε α β : Type} (c : Str) (e : ε) (f : α → R ε β) : R.bind (.exc c e) f = .exc c e := nr rfl
@[simp] theorem at_ok {α : Type} (a : α) (ρ : Evn) : R.at (.ok a : RE α) ρ = .ok a := nr rfl
@[simp] theorem at_exc {α : Type} (c : Str) (u : Unit) (ρ : Evn) : R.at (.exc c u : RE α) ρ = .exc c ρ := nr rfl
@[simp] theorem ofO_some {α : Type} (a : α) : ofO (some a) = .ok a := nr rfl
@[simp] theorem oS_some {α : Type} (a : α) : oS (some a) = .ok a := nr rfl
@[simp] theorem nox_okk {α : Type} (a : α) : nox (.ok a : RE α) = .ok a := nr rfl
/-- a name's datum -/
def gtE : Evn → Nat → RE PyData
  | [], _ => .bad
  | some (.val d) :: _, 0 => .ok d
  | some (.own _) :: _, 0 => .bad
  | some (.exn _) :: _, 0 => .bad
  | none :: _, 0 => .bad
  | _ :: r, n + 1 => gtE r n
/-- a list of one's own -/
def gtO : Evn → Nat → Option (List PyData)
  | [], _ => none
  | some (.val _) :: _, 0 => none
  | some (.own ds) :: _, 0 => some ds
  | some (.exn _) :: _, 0 => none
  | none :: _, 0 => none
  | _ :: r, n + 1 => gtO r n
/-- either -/
def gtA : Evn → Nat → RE PyData
  | [], _ => .bad
  | some (.val d) :: _, 0 => .ok d
  | some (.own ds) :: _, 0 => .ok (.list ds)
  | some (.exn _) :: _, 0 => .bad
  | none :: _, 0 => .bad
  | _ :: r, n + 1 => gtA r n
/-- put in -/
def stE : Evn → Nat → Cel → Evn
  | [], _, _ => []
  | _ :: r, 0, x => some x :: r
  | o :: r, n + 1, x => o :: stE r n x
/-- made empty -/
def clE : Evn → Nat → Evn
  | [], _ => []
  | _ :: r, 0 => none :: r
  | o :: r, n + 1 => o :: clE r n
/-- frozen -/
def fzE : Evn → Nat → Evn
  | [], _ => []
  | some (.own ds) :: r, 0 => some (.val (.list ds)) :: r
  | some (.val d) :: r, 0 => some (.val d) :: r
  | some (.exn c) :: r, 0 => some (.exn c) :: r
  | none :: r, 0 => none :: r
  | o :: r, n + 1 => o :: fzE r n
@[simp] theorem g_v (d : PyData) (r : Evn) : gtE (some (.val d) :: r) 0 = .ok d := nr rfl
@[simp] theorem g_s (o : Option Cel) (r : Evn) (n : Nat) : gtE (o :: r) (n + 1) = gtE r n := by cases o with
  | none => rfl
  | some c => cases c <;> rfl
@[simp] theorem go_v (ds : List PyData) (r : Evn) : gtO (some (.own ds) :: r) 0 = some ds := nr rfl
@[simp] theorem go_s (o : Option Cel) (r : Evn) (n : Nat) : gtO (o :: r) (n + 1) = gtO r n := by cases o with
  | none => rfl
  | some c => cases c <;> rfl
@[simp] theorem ga_v (d : PyData) (r : Evn) : gtA (some (.val d) :: r) 0 = .ok d := nr rfl
@[simp] theorem ga_o (ds : List PyData) (r : Evn) : gtA (some (.own ds) :: r) 0 = .ok (.list ds) := nr rfl
@[simp] theorem ga_s (o : Option Cel) (r : Evn) (n : Nat) : gtA (o :: r) (n + 1) = gtA r n := by cases o with
  | none => rfl
  | some c => cases c <;> rfl
@[simp] theorem s_z (o : Option Cel) (r : Evn) (x : Cel) : stE (o :: r) 0 x = some x :: r := nr rfl
@[simp] theorem s_s (o : Option Cel) (r : Evn) (n : Nat) (x : Cel) : stE (o :: r) (n + 1) x = o :: stE r n x := nr rfl
@[simp] theorem c_z (o : Option Cel) (r : Evn) : clE (o :: r) 0 = none :: r := nr rfl
@[simp] theorem c_s (o : Option Cel) (r : Evn) (n : Nat) : clE (o :: r) (n + 1) = o :: clE r n := nr rfl
theorem set_clE : ∀ (ρ : Evn) (i : Nat), ρ.set i none = clE ρ i
  | [], _ => rfl
  | _ :: _, 0 => rfl
  | o :: r, n + 1 => by rw [List.set_cons_succ, set_clE r n]; rfl
@[simp] theorem fz_o (ds : List PyData) (r : Evn) : fzE (some (.own ds) :: r) 0 = some (.val (.list ds)) :: r := nr rfl
@[simp] theorem fz_v (d : PyData) (r : Evn) : fzE (some (.val d) :: r) 0 = some (.val d) :: r := nr rfl
@[simp] theorem fz_s (o : Option Cel) (r : Evn) (n : Nat) : fzE (o :: r) (n + 1) = o :: fzE r n := by cases o with
  | none => rfl
  | some c => cases c <;> rfl
theorem set_stE : ∀ (ρ : Evn) (i : Nat) (x : Cel), ρ.set i (some x) = stE ρ i x
  | [], _, _ => rfl
  | _ :: _, 0, _ => rfl
  | o :: r, n + 1, x => by rw [List.set_cons_succ, set_stE r n x]; rfl
@[simp] theorem e_mGet (i : Nat) (ρ : Evn) : mGet i ρ = gtE ρ i := by
  unfold mGet
  induction ρ generalizing i with
  | nil => rfl
  | cons o r ih => cases i with
    | zero => rcases o with _ | ⟨_ | _ | _⟩ <;> rfl
    | succ n => rw [List.getElem?_cons_succ, g_s]; exact ih n
theorem ownAt_gtO (i : Nat) (ρ : Evn) : ownAt i ρ = gtO ρ i := by
  unfold ownAt
  induction ρ generalizing i with
  | nil => rfl
  | cons o r ih => cases i with
    | zero => rcases o with _ | ⟨_ | _ | _⟩ <;> rfl
    | succ n => rw [List.getElem?_cons_succ, go_s]; exact ih n
theorem fz_eq (i : Nat) (ρ : Evn) : freeze i ρ = fzE ρ i := by
  unfold freeze
  induction ρ generalizing i with
  | nil => rfl
  | cons o r ih => cases i with
    | zero => rcases o with _ | ⟨_ | _ | _⟩ <;> rfl
    | succ n =>
      rw [List.getElem?_cons_succ, fz_s]
      rw [← ih n]
      cases r[n]? with
      | none => rfl
      | some o => rcases o with _ | ⟨_ | _ | _⟩ <;> rfl
@[simp] theorem e_mC (d : PyData) (ρ : Evn) : mC d ρ = .ok d := nr rfl
@[simp] theorem e_m2 (g : PyData → PyData → Option PyData) (fa fb : Evn → RE PyData) (ρ : Evn) : m2 g fa fb ρ = (fa ρ).bind fun x => (fb ρ).bind fun y => ofO (g x y) := nr rfl
@[simp] theorem e_m1 (g : PyData → Option PyData) (fa : Evn → RE PyData) (ρ : Evn) : m1 g fa ρ = (fa ρ).bind fun d => ofO (g d) := nr rfl
@[simp] theorem e_mT (f : Evn → RE PyData) (ρ : Evn) : mT f ρ = (f ρ).bind fun d => ofO (truth d) := nr rfl
@[simp] theorem e_mB (f : Evn → RE PyData) (ρ : Evn) : mB f ρ = (f ρ).bind fun d => ofO (toB d) := nr rfl
@[simp] theorem e_mAndB (fa fb : Evn → RE Bool) (ρ : Evn) : mAndB fa fb ρ = (fa ρ).bind fun c => if c then fb ρ else .ok false := nr rfl
@[simp] theorem e_mOrB (fa fb : Evn → RE Bool) (ρ : Evn) : mOrB fa fb ρ = (fa ρ).bind fun c => if c then .ok true else fb ρ := nr rfl
@[simp] theorem e_mNotB (fa : Evn → RE Bool) (ρ : Evn) : mNotB fa ρ = (fa ρ).bind fun c => .ok (!c) := nr rfl
@[simp] theorem e_mAnd (fa fb : Evn → RE PyData) (ρ : Evn) : mAnd fa fb ρ = (fa ρ).bind fun d => (ofO (toB d)).bind fun c => if c then fb ρ else .ok (.bool false) := nr rfl
@[simp] theorem e_mOr (fa fb : Evn → RE PyData) (ρ : Evn) : mOr fa fb ρ = (fa ρ).bind fun d => (ofO (toB d)).bind fun c => if c then .ok (.bool true) else fb ρ := nr rfl
@[simp] theorem e_mIf (fc : Evn → RE Bool) (fa fb : Evn → RE PyData) (ρ : Evn) : mIf fc fa fb ρ = (fc ρ).bind fun c => if c then fa ρ else fb ρ := nr rfl
@[simp] theorem e_mChain (g g' : PyData → PyData → Option PyData) (fa fb fc : Evn → RE PyData) (ρ : Evn) : mChain g g' fa fb fc ρ =
  (fa ρ).bind fun x => (fb ρ).bind fun y => (ofO (g x y)).bind fun z => (ofO (toB z)).bind fun k => if k then (fc ρ).bind fun w => ofO (g' y w) else .ok (.bool false) := nr rfl
@[simp] theorem e_mNil (ρ : Evn) : mNil ρ = .ok [] := nr rfl
@[simp] theorem e_mCons (f : Evn → RE PyData) (g : Evn → RE (List PyData)) (ρ : Evn) : mCons f g ρ = (f ρ).bind fun d => (g ρ).bind fun ds => .ok (d :: ds) := nr rfl
@[simp] theorem e_mSeq (k : List PyData → RE PyData) (g : Evn → RE (List PyData)) (ρ : Evn) : mSeq k g ρ = (g ρ).bind k := nr rfl
@[simp] theorem e_mCall (g : List PyData → Option PyData) (fa : Evn → RE (List PyData)) (ρ : Evn) : mCall g fa ρ = (fa ρ).bind fun ds => ofO (g ds) := nr rfl
@[simp] theorem e_mNo (ρ : Evn) : mNo ρ = .ok none := nr rfl
@[simp] theorem e_mPart (f : Evn → RE PyData) (ρ : Evn) : mPart f ρ = (f ρ).bind fun d => (ofO (toI d)).bind fun i => .ok (some i) := nr rfl
@[simp] theorem e_mCut (f : Evn → RE PyData) (l h : Evn → RE (Option Int)) (ρ : Evn) : mCut f l h ρ = (f ρ).bind fun d => (l ρ).bind fun lo => (h ρ).bind fun hi => ofO (pCut d lo hi) := nr rfl
@[simp] theorem e_mIs (T : Ty) (f : Evn → RE PyData) (ρ : Evn) : mIs T f ρ = (f ρ).bind fun d => .ok (.bool (isTy T d)) := nr rfl
@[simp] theorem e_mIs2 (T U : Ty) (f : Evn → RE PyData) (ρ : Evn) : mIs2 T U f ρ = (f ρ).bind fun d => .ok (.bool (isTy T d || isTy U d)) := nr rfl
@[simp] theorem e_mL (f : Evn → RE (List PyData)) (ρ : Evn) : mL f ρ = (f ρ).bind fun ds => .ok (.list ds) := nr rfl
@[simp] theorem e_mDsp (g : Evn → RE (List PyData)) (ρ : Evn) : mDsp g ρ = (g ρ).bind fun ds => if ds.length ≤ sizeLine then .ok ds else .bad := nr rfl
@[simp] theorem e_mRep (g : Evn → RE (List PyData)) (f : Evn → RE PyData) (ρ : Evn) : mRep g f ρ = (mDsp g ρ).bind fun ds => (f ρ).bind (pRep ds) := nr rfl
@[simp] theorem e_mBind (f : Evn → RE PyData) (k : PyData → RE (List PyData)) (ρ : Evn) : mBind f k ρ = (f ρ).bind k := nr rfl
@[simp] theorem e_mIxO (i : Nat) (fk : Evn → RE PyData) (ρ : Evn) : mIxO i fk ρ = (gtA ρ i).bind fun d => (fk ρ).bind fun k => ofO (pIdx d k) := by
  unfold mIxO
  have : ∀ (ρ : Evn) (i : Nat) (fk : RE PyData), (match ρ[i]? with | some (some (.own ds)) => fk.bind fun k => ofO (pIdx (.list ds) k) | some (some (.val d)) => fk.bind fun k => ofO (pIdx d k) | _ => (.bad : RE PyData)) = (gtA ρ i).bind fun d => fk.bind fun k => ofO (pIdx d k) := by
    intro ρ
    induction ρ with
    | nil => intro i fk; rfl
    | cons o r ih => intro i fk; cases i with
      | zero => rcases o with _ | ⟨_ | _ | _⟩ <;> rfl
      | succ n => rw [List.getElem?_cons_succ, ga_s]; exact ih n fk
  exact this ρ i (fk ρ)
@[simp] theorem e_mBor (i : Nat) (f : Evn → RE PyData) (ρ : Evn) : mBor i f ρ = (f (freeze i ρ)).bind fun d => if scal d then .ok d else .bad := nr rfl
@[simp] theorem e_mBorB (i : Nat) (f : Evn → RE Bool) (ρ : Evn) : mBorB i f ρ = f (freeze i ρ) := nr rfl
@[simp] theorem e_mItems (f : Evn → RE PyData) (ρ : Evn) : mItems f ρ = (f ρ).bind fun d => ofO (itemsOf d) := nr rfl
@[simp] theorem e_mWk (g : List PyData → Option (List PyData)) (fa : Evn → RE (List PyData)) (ρ : Evn) : mWk g fa ρ = (fa ρ).bind fun ds => ofO (g ds) := nr rfl
@[simp] theorem e_mRev (f : Evn → RE PyData) (ρ : Evn) : mRev f ρ = (f ρ).bind fun d => ofO (rev1 d) := nr rfl
@[simp] theorem e_mYes (ρ : Evn) : mYes ρ = .ok true := nr rfl
@[simp] theorem e_mLc (g : Evn → RE (List PyData)) (m : PyData → Evn → Option Evn) (t : Evn → RE Bool) (e : Evn → RE PyData) (vs : List Nat) (ρ : Evn) : mLc g m t e vs ρ = (g ρ).bind fun ds => if ds.length ≤ sizeLine then lcM m t e (wipeE ρ vs) ds else .bad := nr rfl
@[simp] theorem e_gN (i : Nat) (d : PyData) (ρ : Evn) : gN i d ρ = some (stE ρ i (.val d)) := by rw [← set_stE]; rfl
@[simp] theorem e_gE (ρ : Evn) : gE [] ρ = some ρ := nr rfl
@[simp] theorem e_gC (m : PyData → Evn → Option Evn) (ms : List PyData → Evn → Option Evn) (d : PyData) (r : List PyData) (ρ : Evn) : gC m ms (d :: r) ρ = (m d ρ).bind (ms r) := nr rfl
@[simp] theorem e_gTt (n : Nat) (ms : List PyData → Evn → Option Evn) (ds : List PyData) (ρ : Evn) : gT n ms (.tuple ds) ρ = if ds.length = n then ms ds ρ else none := nr rfl
@[simp] theorem e_gTl (n : Nat) (ms : List PyData → Evn → Option Evn) (ds : List PyData) (ρ : Evn) : gT n ms (.list ds) ρ = if ds.length = n then ms ds ρ else none := nr rfl
@[simp] theorem e_sNx (ρ : Evn) : sNx ρ = .ok (.nx, ρ) := nr rfl
@[simp] theorem e_sThen (f g : Evn → RS) (ρ : Evn) : sThen f g ρ = (f ρ).bind fun p => match p.1 with | .nx => g p.2 | _ => .ok p := nr rfl
@[simp] theorem e_sDrop (f : Evn → RE PyData) (ρ : Evn) : sDrop f ρ = ((f ρ).at ρ).bind fun _ => .ok (.nx, ρ) := nr rfl
@[simp] theorem e_sRet (f : Evn → RE PyData) (ρ : Evn) : sRet f ρ = ((f ρ).at ρ).bind fun d => .ok (.rt d, ρ) := nr rfl
@[simp] theorem e_sSet (i : Nat) (f : Evn → RE PyData) (ρ : Evn) : sSet i f ρ = ((f ρ).at ρ).bind fun d => .ok (.nx, stE ρ i (.val d)) := by simp only [← set_stE]; rfl
@[simp] theorem e_sIf (c : Evn → RE Bool) (f g : Evn → RS) (ρ : Evn) : sIf c f g ρ = ((c ρ).at ρ).bind fun b => if b then f ρ else g ρ := nr rfl
@[simp] theorem e_sFor (g : Evn → RE (List PyData)) (m : PyData → Evn → Option Evn) (body : Evn → RS) (ρ : Evn) : sFor g m body ρ = ((g ρ).at ρ).bind fun ds => forM m body ds ρ := nr rfl
@[simp] theorem e_sAsg (f : Evn → RE PyData) (m : PyData → Evn → Option Evn) (ρ : Evn) : sAsg f m ρ = ((f ρ).at ρ).bind fun d => (oS (m d ρ)).bind fun ρ' => .ok (.nx, ρ') := nr rfl
@[simp] theorem e_sPar (i j : Nat) (fa : Evn → RE (List PyData)) (ρ : Evn) : sPar i j fa ρ = ((fa ρ).at ρ).bind fun ds => match ds with
  | [d, e] => .ok (.nx, stE (stE ρ i (.val d)) j (.val e))
  | _ => .bad := by simp only [← set_stE]; rfl
@[simp] theorem e_sSetO (i : Nat) (f : Evn → RE (List PyData)) (ρ : Evn) : sSetO i f ρ = ((f ρ).at ρ).bind fun ds => .ok (.nx, stE ρ i (.own ds)) := by simp only [← set_stE]; rfl
@[simp] theorem e_sSetL (i : Nat) (f : Evn → RE (List PyData)) (ρ : Evn) : sSetL i f ρ = ((f ρ).at ρ).bind fun ds => .ok (.nx, stE ρ i (.val (.list ds))) := by simp only [← set_stE]; rfl
@[simp] theorem e_ownAt (i : Nat) (ρ : Evn) : ownAt i ρ = gtO ρ i := ownAt_gtO i ρ
@[simp] theorem e_freeze (i : Nat) (ρ : Evn) : freeze i ρ = fzE ρ i := fz_eq i ρ
@[simp] theorem e_sApp (i : Nat) (f : Evn → RE PyData) (ρ : Evn) : sApp i f ρ = (oS (gtO ρ i)).bind fun ds => ((f ρ).at ρ).bind fun d => if ds.length < sizeLine then .ok (.nx, stE ρ i (.own (ds ++ [d]))) else .bad := by
  rw [← ownAt_gtO]; simp only [← set_stE]; unfold sApp; cases ownAt i ρ <;> rfl
@[simp] theorem e_sSetIx (i : Nat) (fk fe : Evn → RE PyData) (ρ : Evn) : sSetIx i fk fe ρ = (oS (gtO ρ i)).bind fun ds => ((fe ρ).at ρ).bind fun d => ((fk ρ).at ρ).bind fun k => (oS (setD ds k d)).bind fun es => .ok (.nx, stE ρ i (.own es)) := by
  rw [← ownAt_gtO]; simp only [← set_stE]; unfold sSetIx; cases ownAt i ρ <;> rfl
@[simp] theorem e_sAugIx (i : Nat) (fk : Evn → RE PyData) (f : Int → Int → Int) (fe : Evn → RE PyData) (ρ : Evn) : sAugIx i fk f fe ρ = (oS (gtO ρ i)).bind fun ds => ((fk ρ).at ρ).bind fun k => (oS (pIdx (.list ds) k)).bind fun old => ((fe ρ).at ρ).bind fun d => (oS ((iOp f old d).bind (setD ds k))).bind fun es => .ok (.nx, stE ρ i (.own es)) := by
  rw [← ownAt_gtO]; simp only [← set_stE]; unfold sAugIx; cases ownAt i ρ <;> rfl
@[simp] theorem e_sAug (i : Nat) (g : PyData → PyData → Option PyData) (f : Evn → RE PyData) (ρ : Evn) : sAug i g f ρ = ((gtE ρ i).at ρ).bind fun d => ((f ρ).at ρ).bind fun e => (oS (g d e)).bind fun r => .ok (.nx, stE ρ i (.val r)) := by
  rw [← e_mGet]; simp only [← set_stE]; unfold sAug mGet
  rcases ρ[i]? with _ | _ | ⟨_ | _ | _⟩ <;> rfl
@[simp] theorem e_sPop (i : Nat) (ρ : Evn) : sPop i ρ = (oS (gtO ρ i)).bind fun ds => (oS ds.getLast?).bind fun _ => .ok (.nx, stE ρ i (.own ds.dropLast)) := by
  rw [← ownAt_gtO]; simp only [← set_stE]; unfold sPop; cases ownAt i ρ <;> rfl
@[simp] theorem e_sPopTo (i j : Nat) (ρ : Evn) : sPopTo i j ρ = (oS (gtO ρ i)).bind fun ds => (oS ds.getLast?).bind fun d => .ok (.nx, stE (stE ρ i (.own ds.dropLast)) j (.val d)) := by
  rw [← ownAt_gtO]; simp only [← set_stE]; unfold sPopTo; cases ownAt i ρ <;> rfl
@[simp] theorem e_fnM (n N : Nat) (body : Evn → RS) (ds : List PyData) : fnM n N body ds = if ds.length = n then bodyOut (body (startE N ds)) else .bad := nr rfl
@[simp] theorem e_bo_rt (d : PyData) (ρ : Evn) : bodyOut (.ok (.rt d, ρ)) = .ok d := nr rfl
@[simp] theorem e_bo_nx (ρ : Evn) : bodyOut (.ok (.nx, ρ)) = .ok .none := nr rfl
@[simp] theorem e_bo_exc (c : Str) (ρ : Evn) : bodyOut (.exc c ρ) = .exc c () := nr rfl
@[simp] theorem e_startE (N : Nat) (ds : List PyData) : startE N ds = ds.map (fun d => some (.val d)) ++ List.replicate (N - ds.length) none := nr rfl
@[simp] theorem e_wipe0 (ρ : Evn) : wipeE ρ [] = ρ := nr rfl
@[simp] theorem e_wipe1 (ρ : Evn) (v : Nat) (vs : List Nat) : wipeE ρ (v :: vs) = clE (wipeE ρ vs) v := by rw [← set_clE]; exact id rfl
/-! operators on data -/
@[simp] theorem d_add (i j : Int) : pAdd (.int i) (.int j) = some (.int (i + j)) := nr rfl
@[simp] theorem d_addib (i : Int) (b : Bool) : pAdd (.int i) (.bool b) = some (.int (i + PyProof.Rows.b2i b)) := nr rfl
@[simp] theorem d_addl (xs ys : List PyData) : pAdd (.list xs) (.list ys) = if xs.length + ys.length ≤ sizeLine then some (.list (xs ++ ys)) else none := nr rfl
@[simp] theorem d_addt (xs ys : List PyData) : pAdd (.tuple xs) (.tuple ys) = if xs.length + ys.length ≤ sizeLine then some (.tuple (xs ++ ys)) else none := nr rfl
@[simp] theorem d_sub (i j : Int) : pSub (.int i) (.int j) = some (.int (i - j)) := nr rfl
@[simp] theorem d_mul (i j : Int) : pMul (.int i) (.int j) = if mulOk i j then some (.int (i * j)) else none := nr rfl
@[simp] theorem d_div (i j : Int) : pDiv (.int i) (.int j) = if divOk j then some (.int (i.fdiv j)) else none := nr rfl
@[simp] theorem d_mod (i j : Int) : pMod (.int i) (.int j) = if j ≠ 0 then some (.int (i.fmod j)) else none := nr rfl
@[simp] theorem d_pow (i j : Int) : pPow (.int i) (.int j) = if powOk i j then some (.int (i ^ j.toNat)) else none := nr rfl
@[simp] theorem d_cmp (p : Int → Int → Bool) (i j : Int) : pCmp p (.int i) (.int j) = some (.bool (p i j)) := nr rfl
@[simp] theorem d_neg (i : Int) : pNeg (.int i) = some (.int (-i)) := nr rfl
@[simp] theorem d_not (b : Bool) : pNot (.bool b) = some (.bool !b) := nr rfl
@[simp] theorem d_iadd (i j : Int) : pIAdd (.int i) (.int j) = some (.int (i + j)) := nr rfl
@[simp] theorem d_iop (f : Int → Int → Int) (i j : Int) : iOp f (.int i) (.int j) = some (.int (f i j)) := nr rfl
@[simp] theorem d_toB (b : Bool) : toB (.bool b) = some b := nr rfl
@[simp] theorem d_toI (i : Int) : toI (.int i) = some i := nr rfl
@[simp] theorem d_trB (b : Bool) : truth (.bool b) = some b := nr rfl
@[simp] theorem d_trI (i : Int) : truth (.int i) = some (i != 0) := nr rfl
@[simp] theorem d_trN : truth .none = some false := nr rfl
@[simp] theorem d_trL (xs : List PyData) : truth (.list xs) = some (!xs.isEmpty) := nr rfl
@[simp] theorem d_trT (xs : List PyData) : truth (.tuple xs) = some (!xs.isEmpty) := nr rfl
@[simp] theorem d_lenL (xs : List PyData) : bLen [.list xs] = some (.int xs.length) := nr rfl
@[simp] theorem d_lenT (xs : List PyData) : bLen [.tuple xs] = some (.int xs.length) := nr rfl
@[simp] theorem d_intI (i : Int) : bInt [.int i] = some (.int i) := nr rfl
@[simp] theorem d_intB (b : Bool) : bInt [.bool b] = some (.int (if b then 1 else 0)) := nr rfl
@[simp] theorem d_abs (i : Int) : bAbs [.int i] = some (.int (if i < 0 then -i else i)) := nr rfl
@[simp] theorem d_gcd (a b : Int) : bGcd [.int a, .int b] = some (.int ((Nat.gcd a.natAbs b.natAbs : Nat) : Int)) := nr rfl
@[simp] theorem d_max2 (i j : Int) : bMax [.int i, .int j] = some (.int (if j > i then j else i)) := nr rfl
@[simp] theorem d_min2 (i j : Int) : bMin [.int i, .int j] = some (.int (if j < i then j else i)) := nr rfl
@[simp] theorem d_sumI (ns : List Int) : bSum [.list (ns.map .int)] = some (.int ns.sum) := by simp only [bSum, ints?_map, Option.map_some]
@[simp] theorem d_anyB (ns : List Bool) : bAny [.list (ns.map .bool)] = some (.bool (ns.any id)) := by simp only [bAny, bools?_map, Option.map_some]
@[simp] theorem d_allB (ns : List Bool) : bAll [.list (ns.map .bool)] = some (.bool (ns.all id)) := by simp only [bAll, bools?_map, Option.map_some]
@[simp] theorem d_maxL (ns : List Int) : bMax [.list (ns.map .int)] = (lmax ns).map .int := by cases ns <;> simp only [bMax, ints?_map, Option.bind_some]
@[simp] theorem d_minL (ns : List Int) : bMin [.list (ns.map .int)] = (lmin ns).map .int := by cases ns <;> simp only [bMin, ints?_map, Option.bind_some]
@[simp] theorem d_listL (xs : List PyData) : bList [.list xs] = some (.list xs) := nr rfl
@[simp] theorem d_listT (xs : List PyData) : bList [.tuple xs] = some (.list xs) := nr rfl
@[simp] theorem d_tupL (xs : List PyData) : bTuple [.list xs] = some (.tuple xs) := nr rfl
@[simp] theorem d_tupT (xs : List PyData) : bTuple [.tuple xs] = some (.tuple xs) := nr rfl
@[simp] theorem d_idxL (ds : List PyData) (i : Int) : pIdx (.list ds) (.int i) = L2.atI ds i := nr rfl
@[simp] theorem d_idxT (ds : List PyData) (i : Int) : pIdx (.tuple ds) (.int i) = L2.atI ds i := nr rfl
@[simp] theorem d_lstL (ds : List PyData) : pLst (.list ds) = .ok ds := nr rfl
@[simp] theorem d_lstT (ds : List PyData) : pLst (.tuple ds) = .ok ds := nr rfl
@[simp] theorem d_revL (ds : List PyData) : pRevL (.list ds) = .ok ds.reverse := nr rfl
@[simp] theorem d_itL (ds : List PyData) : itemsOf (.list ds) = some ds := nr rfl
@[simp] theorem d_itT (ds : List PyData) : itemsOf (.tuple ds) = some ds := nr rfl
@[simp] theorem d_rng1 (j : Int) : rng1 [.int j] = if r62 j then some (rangeL 0 j.toNat) else none := nr rfl
@[simp] theorem d_rng2 (i j : Int) : rng2 [.int i, .int j] = if r62 i ∧ r62 j then some (rangeL i (j - i).toNat) else none := nr rfl
@[simp] theorem d_enum1 (ds : List PyData) : enum1 [.list ds] = some (enumL 0 ds) := nr rfl
@[simp] theorem d_zip2 (ds es : List PyData) : zip2 [.list ds, .list es] = some (zipL ds es) := nr rfl
@[simp] theorem d_rev1L (ds : List PyData) : rev1 (.list ds) = some ds.reverse := nr rfl
@[simp] theorem d_rev1T (ds : List PyData) : rev1 (.tuple ds) = some ds.reverse := nr rfl
@[simp] theorem d_cutL (ds : List PyData) (lo hi : Option Int) : pCut (.list ds) lo hi = some (.list (cutA ds lo hi)) := nr rfl
@[simp] theorem d_cutT (ds : List PyData) (lo hi : Option Int) : pCut (.tuple ds) lo hi = some (.tuple (cutA ds lo hi)) := nr rfl
@[simp] theorem d_rep (ds : List PyData) (k : Int) : pRep ds (.int k) = if repOk ds.length k then .ok (List.replicate k.toNat ds).flatten else .bad := nr rfl
@[simp] theorem d_mTup (ds : List PyData) : mTup ds = if ds.length ≤ sizeLine then .ok (.tuple ds) else .bad := nr rfl
@[simp] theorem d_mLst (ds : List PyData) : mLst ds = if ds.length ≤ sizeLine then .ok (.list ds) else .bad := nr rfl
@[simp] theorem d_setD (ds : List PyData) (j : Int) (d : PyData) : setD ds (.int j) d = (L2.ixN ds.length j).map fun n => ds.set n d := nr rfl
@[simp] theorem d_scN : scal .none = true := nr rfl
@[simp] theorem d_scB (b : Bool) : scal (.bool b) = true := nr rfl
@[simp] theorem d_scI (i : Int) : scal (.int i) = true := nr rfl
@[simp] theorem d_scS (x : Str) : scal (.str x) = true := nr rfl
@[simp] theorem d_isN (d : PyData) : pIsN d .none = some (.bool (isNone d)) := nr rfl
@[simp] theorem d_isNN (d : PyData) : pIsNotN d .none = some (.bool (!isNone d)) := nr rfl
@[simp] theorem d_nN : isNone .none = true := nr rfl
@[simp] theorem d_nB (b : Bool) : isNone (.bool b) = false := nr rfl
@[simp] theorem d_nI (i : Int) : isNone (.int i) = false := nr rfl
@[simp] theorem d_nS (x : Str) : isNone (.str x) = false := nr rfl
@[simp] theorem d_nL (x : List PyData) : isNone (.list x) = false := nr rfl
@[simp] theorem d_nT (x : List PyData) : isNone (.tuple x) = false := nr rfl
/-! guards -/
theorem mulOk_r {i j : Int} (h1 : -(2 ^ 64) < j) (h2 : j < 2 ^ 64) : mulOk i j := .inr (.inl ⟨h1, h2⟩)
theorem mulOk_l {i j : Int} (h1 : -(2 ^ 64) < i) (h2 : i < 2 ^ 64) : mulOk i j := .inl ⟨h1, h2⟩
theorem divOk_s {j : Int} (h1 : 0 < j) (h2 : j < 2 ^ 64) : divOk j := by
  refine ⟨by omega, ?_⟩
  have h3 : j.natAbs < 2 ^ 64 := by omega
  have h4 := (Nat.log2_lt (by omega)).mpr h3
  omega
theorem r62_s {j : Int} (h1 : -(2 ^ 62) ≤ j) (h2 : j < 2 ^ 62) : r62 j := ⟨h1, h2⟩
theorem line_eq : (sizeLine : Nat) = 16777216 := sizeLine_eq
theorem fmod_pos {i j : Int} (h : 0 < j) : i.fmod j = i % j := Int.fmod_eq_emod_of_nonneg i (by omega)
theorem fdiv_pos {i j : Int} (h : 0 < j) : i.fdiv j = i / j := Int.fdiv_eq_ediv_of_nonneg i (by omega)
theorem atI_ok {α : Type} {xs : List α} {i : Int} {v : α} (h0 : 0 ≤ i) (h : xs[i.toNat]? = some v) : L2.atI xs i = some v := by
  have e : ((i.toNat : Nat) : Int) = i := by omega
  rw [← e]
  exact L2.atI_nat h
/-! loops -/
theorem forM_nil (m : PyData → Evn → Option Evn) (body : Evn → RS) (ρ : Evn) : forM m body [] ρ = .ok (.nx, ρ) := rfl
theorem forM_cons (m : PyData → Evn → Option Evn) (body : Evn → RS) (d : PyData) (r : List PyData) (ρ : Evn) : forM m body (d :: r) ρ = (oS (m d ρ)).bind fun ρ1 => (body ρ1).bind fun p => match p.1 with
    | .nx => forM m body r p.2
    | .ct => forM m body r p.2
    | .bk => .ok (.nx, p.2)
    | .rt d => .ok (.rt d, p.2) := rfl
/-- a loop that goes on, by what holds between two turns -/
theorem forM_inv {m : PyData → Evn → Option Evn} {body : Evn → RS} (I : Nat → Evn → Prop) {ds : List PyData} {ρ : Evn} (h0 : I 0 ρ)
    (h : ∀ i d ρ, ds[i]? = some d → I i ρ → ∃ ρ1 ρ2, m d ρ = some ρ1 ∧ (body ρ1 = .ok (.nx, ρ2) ∨ body ρ1 = .ok (.ct, ρ2)) ∧ I (i + 1) ρ2) : ∃ ρ', forM m body ds ρ = .ok (.nx, ρ') ∧ I ds.length ρ' := by
  have key : ∀ (es : List PyData) (k : Nat) (ρ : Evn), k + es.length = ds.length → (∀ i, es[i]? = ds[k + i]?) → I k ρ → ∃ ρ', forM m body es ρ = .ok (.nx, ρ') ∧ I ds.length ρ' := by
    intro es
    induction es with
    | nil =>
      intro k ρ e _ hi
      simp only [List.length_nil, Nat.add_zero] at e
      subst e
      exact ⟨ρ, rfl, hi⟩
    | cons d r ih =>
      intro k ρ e he hi
      have h1 := he 0
      simp only [List.getElem?_cons_zero, Nat.add_zero] at h1
      obtain ⟨ρ1, ρ2, g1, g2, g3⟩ := h k d ρ h1.symm hi
      obtain ⟨ρ', g4, g5⟩ := ih (k + 1) ρ2 (by rw [List.length_cons] at e; omega) (fun i => by
        have := he (i + 1)
        simp only [List.getElem?_cons_succ] at this
        rw [this]
        congr 1
        omega) g3
      refine ⟨ρ', ?_, g5⟩
      rw [forM_cons, g1, oS_some, bind_ok]
      cases g2 with
      | inl g => rw [g, bind_ok]; exact g4
      | inr g => rw [g, bind_ok]; exact g4
  exact key ds 0 ρ (by omega) (fun i => by rw [Nat.zero_add]) h0
/-- a loop over what is made of a list, with a state -/
theorem forM_map {α : Type} {m : PyData → Evn → Option Evn} {body : Evn → RS} {dec : α → PyData} (I : List α → Evn → Prop) {xs : List α} {ρ : Evn} (h0 : I [] ρ)
    (h : ∀ pre x post ρ, xs = pre ++ x :: post → I pre ρ → ∃ ρ1 ρ2, m (dec x) ρ = some ρ1 ∧ (body ρ1 = .ok (.nx, ρ2) ∨ body ρ1 = .ok (.ct, ρ2)) ∧ I (pre ++ [x]) ρ2) : ∃ ρ', forM m body (xs.map dec) ρ = .ok (.nx, ρ') ∧ I xs ρ' := by
  have key : ∀ (es pre : List α) (ρ : Evn), xs = pre ++ es → I pre ρ → ∃ ρ', forM m body (es.map dec) ρ = .ok (.nx, ρ') ∧ I xs ρ' := by
    intro es
    induction es with
    | nil => intro pre ρ e hi; rw [List.append_nil] at e; subst e; exact ⟨ρ, rfl, hi⟩
    | cons x r ih =>
      intro pre ρ e hi
      obtain ⟨ρ1, ρ2, g1, g2, g3⟩ := h pre x r ρ e hi
      obtain ⟨ρ', g4, g5⟩ := ih (pre ++ [x]) ρ2 (by rw [e, List.append_assoc]; rfl) g3
      refine ⟨ρ', ?_, g5⟩
      rw [List.map_cons, forM_cons, g1, oS_some, bind_ok]
      cases g2 with
      | inl g => rw [g, bind_ok]; exact g4
      | inr g => rw [g, bind_ok]; exact g4
  exact key xs [] ρ rfl h0
theorem rangeL_get {lo : Int} {n i : Nat} {d : PyData} (h : (rangeL lo n)[i]? = some d) : i < n ∧ d = .int (lo + i) := by
  unfold rangeL at h
  rw [List.getElem?_map] at h
  by_cases hi : i < n
  · rw [List.getElem?_range hi] at h
    simp only [Option.map_some, Option.some.injEq] at h
    exact ⟨hi, h.symm⟩
  · rw [List.getElem?_eq_none (by rw [List.length_range]; omega)] at h
    cases h
/-- a loop over the whole numbers of a range -/
theorem forM_rng {m : PyData → Evn → Option Evn} {body : Evn → RS} {lo : Int} {n : Nat} (I : Nat → Evn → Prop) {ρ : Evn} (h0 : I 0 ρ)
    (h : ∀ i ρ, i < n → I i ρ → ∃ ρ1 ρ2, m (.int (lo + i)) ρ = some ρ1 ∧ (body ρ1 = .ok (.nx, ρ2) ∨ body ρ1 = .ok (.ct, ρ2)) ∧ I (i + 1) ρ2) : ∃ ρ', forM m body (rangeL lo n) ρ = .ok (.nx, ρ') ∧ I n ρ' := by
  have := forM_inv (m := m) (body := body) I (ds := rangeL lo n) h0 (fun i d ρ hd hi => by
    obtain ⟨h1, h2⟩ := rangeL_get hd
    subst h2
    exact h i ρ h1 hi)
  rw [rangeL_len] at this
  exact this
/-- a list made of a list -/
theorem lcM_map {α : Type} {m : PyData → Evn → Option Evn} {t : Evn → RE Bool} {e : Evn → RE PyData} {ρ : Evn} {dec : α → PyData} (p : α → Bool) (f : α → PyData) : ∀ {xs : List α},
    (∀ x ∈ xs, ∃ ρ1, m (dec x) ρ = some ρ1 ∧ t ρ1 = .ok (p x) ∧ (p x = true → e ρ1 = .ok (f x))) → lcM m t e ρ (xs.map dec) = .ok ((xs.filter p).map f)
  | [], _ => rfl
  | x :: r, h => by
    obtain ⟨ρ1, h1, h2, h3⟩ := h x (List.mem_cons_self ..)
    have ih := lcM_map p f (xs := r) (fun y hy => h y (List.mem_cons_of_mem _ hy))
    rw [List.map_cons]
    unfold lcM
    rw [h1, ofO_some, bind_ok, h2, nox_okk, bind_ok, ih]
    cases hp : p x with
    | true => rw [if_pos rfl, h3 hp, nox_okk, bind_ok, bind_ok, List.filter_cons_of_pos hp, List.map_cons]
    | false => rw [if_neg (by decide), List.filter_cons_of_neg (by rw [hp]; decide)]
/-- .. of each item -/
theorem lcM_all {α : Type} {m : PyData → Evn → Option Evn} {e : Evn → RE PyData} {ρ : Evn} {dec : α → PyData} (f : α → PyData) {xs : List α}
    (h : ∀ x ∈ xs, ∃ ρ1, m (dec x) ρ = some ρ1 ∧ e ρ1 = .ok (f x)) : lcM m mYes e ρ (xs.map dec) = .ok (xs.map f) := by
  have := lcM_map (m := m) (t := mYes) (e := e) (ρ := ρ) (dec := dec) (fun _ => true) f (xs := xs) (fun x hx => by
    obtain ⟨ρ1, h1, h2⟩ := h x hx
    exact ⟨ρ1, h1, rfl, fun _ => h2⟩)
  rw [this, List.filter_eq_self.mpr (fun _ _ => rfl)]
theorem lcM_rng {i : Nat} {e : Evn → RE PyData} {ρ : Evn} {n : Nat} (f : Nat → PyData) (h : ∀ k < n, e (stE ρ i (.val (.int k))) = .ok (f k)) : lcM (gN i) mYes e ρ (rangeL 0 n) = .ok ((List.range n).map f) := by
  unfold rangeL
  refine lcM_all (dec := fun (k : Nat) => PyData.int (0 + (k : Int))) f fun x hx => ⟨_, e_gN _ _ _, ?_⟩
  rw [Int.zero_add]
  exact h x (List.mem_range.mp hx)
theorem lcM_rngp {i : Nat} {t : Evn → RE Bool} {e : Evn → RE PyData} {ρ : Evn} {n : Nat} (p : Nat → Bool) (f : Nat → PyData) (ht : ∀ k < n, t (stE ρ i (.val (.int k))) = .ok (p k)) (h : ∀ k < n, p k = true → e (stE ρ i (.val (.int k))) = .ok (f k)) : lcM (gN i) t e ρ (rangeL 0 n) = .ok (((List.range n).filter p).map f) := by
  unfold rangeL
  refine lcM_map (dec := fun (k : Nat) => PyData.int (0 + (k : Int))) p f fun x hx => ⟨_, e_gN _ _ _, ?_, fun hp => ?_⟩
  · rw [Int.zero_add]; exact ht x (List.mem_range.mp hx)
  · rw [Int.zero_add]; exact h x (List.mem_range.mp hx) hp
/-! steps of a body -/
theorem fn_go {n N : Nat} {b : Evn → RS} {ds : List PyData} (h : ds.length = n) : fnM n N b ds = bodyOut (b (startE N ds)) := by rw [e_fnM, if_pos h]
theorem fn_ret {n N : Nat} {b : Evn → RS} {ds : List PyData} {ρ ρ' : Evn} {d : PyData} (h : ds.length = n) (e : startE N ds = ρ) (hb : b ρ = .ok (.rt d, ρ')) : fnM n N b ds = .ok d := by rw [fn_go h, e, hb]; rfl
theorem st_set {i : Nat} {f : Evn → RE PyData} {g : Evn → RS} {ρ : Evn} {d : PyData} (h : f ρ = .ok d) : sThen (sSet i f) g ρ = g (stE ρ i (.val d)) := by simp [h]
theorem st_setL {i : Nat} {f : Evn → RE (List PyData)} {g : Evn → RS} {ρ : Evn} {ds : List PyData} (h : f ρ = .ok ds) : sThen (sSetL i f) g ρ = g (stE ρ i (.val (.list ds))) := by simp [h]
theorem st_setO {i : Nat} {f : Evn → RE (List PyData)} {g : Evn → RS} {ρ : Evn} {ds : List PyData} (h : f ρ = .ok ds) : sThen (sSetO i f) g ρ = g (stE ρ i (.own ds)) := by simp [h]
theorem st_if {c : Evn → RE Bool} {a b g : Evn → RS} {ρ : Evn} {q : Bool} (h : c ρ = .ok q) : sThen (sIf c a b) g ρ = if q then sThen a g ρ else sThen b g ρ := by cases q <;> simp [h]
theorem st_no {c : Evn → RE Bool} {a g : Evn → RS} {ρ : Evn} (h : c ρ = .ok false) : sThen (sIf c a sNx) g ρ = g ρ := by simp [h]
theorem st_yes {c : Evn → RE Bool} {f : Evn → RE PyData} {b g : Evn → RS} {ρ : Evn} {d : PyData} (h : c ρ = .ok true) (hf : f ρ = .ok d) : sThen (sIf c (sRet f) b) g ρ = .ok (.rt d, ρ) := by simp [h, hf]
theorem st_nx {f g : Evn → RS} {ρ ρ' : Evn} (h : f ρ = .ok (.nx, ρ')) : sThen f g ρ = g ρ' := by simp [h]
theorem st_ret {f : Evn → RE PyData} {ρ : Evn} {d : PyData} (h : f ρ = .ok d) : sRet f ρ = .ok (.rt d, ρ) := by simp [h]
/-! whole numbers in lists -/
abbrev li (ns : List Int) : PyData := .list (ns.map .int)
theorem atI_li {ns : List Int} {i : Int} (h0 : 0 ≤ i) (h1 : i < ns.length) : L2.atI (ns.map PyData.int) i = some (.int (ns.getD i.toNat 0)) := by
  refine atI_ok h0 ?_
  rw [List.getElem?_map, List.getElem?_eq_getElem (by omega), Option.map_some, List.getD_eq_getElem?_getD, List.getElem?_eq_getElem (by omega), Option.getD_some]

/-! kinds -/
@[simp] theorem ty_li_none : isTy Ty.list .none = false := nr rfl
@[simp] theorem ty_li_bool (b : Bool) : isTy Ty.list (.bool b) = false := nr rfl
@[simp] theorem ty_li_int (i : Int) : isTy Ty.list (.int i) = false := nr rfl
@[simp] theorem ty_li_str (x : Str) : isTy Ty.list (.str x) = false := nr rfl
@[simp] theorem ty_li_list (xs : List PyData) : isTy Ty.list (.list xs) = true := nr rfl
@[simp] theorem ty_li_tuple (xs : List PyData) : isTy Ty.list (.tuple xs) = false := nr rfl
@[simp] theorem ty_tu_none : isTy Ty.tuple .none = false := nr rfl
@[simp] theorem ty_tu_bool (b : Bool) : isTy Ty.tuple (.bool b) = false := nr rfl
@[simp] theorem ty_tu_int (i : Int) : isTy Ty.tuple (.int i) = false := nr rfl
@[simp] theorem ty_tu_str (x : Str) : isTy Ty.tuple (.str x) = false := nr rfl
@[simp] theorem ty_tu_list (xs : List PyData) : isTy Ty.tuple (.list xs) = false := nr rfl
@[simp] theorem ty_tu_tuple (xs : List PyData) : isTy Ty.tuple (.tuple xs) = true := nr rfl
@[simp] theorem ty_bo_none : isTy Ty.bool .none = false := nr rfl
@[simp] theorem ty_bo_bool (b : Bool) : isTy Ty.bool (.bool b) = true := nr rfl
@[simp] theorem ty_bo_int (i : Int) : isTy Ty.bool (.int i) = false := nr rfl
@[simp] theorem ty_bo_str (x : Str) : isTy Ty.bool (.str x) = false := nr rfl
@[simp] theorem ty_bo_list (xs : List PyData) : isTy Ty.bool (.list xs) = false := nr rfl
@[simp] theorem ty_bo_tuple (xs : List PyData) : isTy Ty.bool (.tuple xs) = false := nr rfl
@[simp] theorem ty_in_none : isTy Ty.int .none = false := nr rfl
@[simp] theorem ty_in_bool (b : Bool) : isTy Ty.int (.bool b) = true := nr rfl
@[simp] theorem ty_in_int (i : Int) : isTy Ty.int (.int i) = true := nr rfl
@[simp] theorem ty_in_str (x : Str) : isTy Ty.int (.str x) = false := nr rfl
@[simp] theorem ty_in_list (xs : List PyData) : isTy Ty.int (.list xs) = false := nr rfl
@[simp] theorem ty_in_tuple (xs : List PyData) : isTy Ty.int (.tuple xs) = false := nr rfl
@[simp] theorem ty_st_none : isTy Ty.str .none = false := nr rfl
@[simp] theorem ty_st_bool (b : Bool) : isTy Ty.str (.bool b) = false := nr rfl
@[simp] theorem ty_st_int (i : Int) : isTy Ty.str (.int i) = false := nr rfl
@[simp] theorem ty_st_str (x : Str) : isTy Ty.str (.str x) = true := nr rfl
@[simp] theorem ty_st_list (xs : List PyData) : isTy Ty.str (.list xs) = false := nr rfl
@[simp] theorem ty_st_tuple (xs : List PyData) : isTy Ty.str (.tuple xs) = false := nr rfl
/-! likeness of data that have a type -/
open PySem.W in
theorem eq_dat {α : Type} [DecidableEq α] [Datum α] (hd : Datum.depth α ≤ 64) (a b : α) : pEq (Datum.toD a) (Datum.toD b) = some (.bool (decide (a = b))) := by
  unfold pEq
  rw [if_pos (show eqOk _ _ from Or.inl (Nat.le_trans (Datum.depth_le a) hd)), Datum.eqv]
open PySem.W in
theorem ne_dat {α : Type} [DecidableEq α] [Datum α] (hd : Datum.depth α ≤ 64) (a b : α) : pNe (Datum.toD a) (Datum.toD b) = some (.bool (decide (a ≠ b))) := by
  unfold pNe
  rw [if_pos (show eqOk _ _ from Or.inl (Nat.le_trans (Datum.depth_le a) hd)), Datum.eqv]
  by_cases h : a = b <;> simp [h]
@[simp] theorem eq_int (i j : Int) : pEq (.int i) (.int j) = some (.bool (decide (i = j))) := eq_dat (α := Int) (by decide) i j
@[simp] theorem ne_int (i j : Int) : pNe (.int i) (.int j) = some (.bool (decide (i ≠ j))) := ne_dat (α := Int) (by decide) i j
@[simp] theorem eq_bl (i j : Bool) : pEq (.bool i) (.bool j) = some (.bool (decide (i = j))) := eq_dat (α := Bool) (by decide) i j
@[simp] theorem ne_bl (i j : Bool) : pNe (.bool i) (.bool j) = some (.bool (decide (i ≠ j))) := ne_dat (α := Bool) (by decide) i j
@[simp] theorem eq_st (i j : Str) : pEq (.str i) (.str j) = some (.bool (decide (i = j))) := eq_dat (α := Str) (by decide) i j
@[simp] theorem ne_st (i j : Str) : pNe (.str i) (.str j) = some (.bool (decide (i ≠ j))) := ne_dat (α := Str) (by decide) i j
@[simp] theorem eq_li (i j : List Int) : pEq (.list (i.map .int)) (.list (j.map .int)) = some (.bool (decide (i = j))) := eq_dat (α := List Int) (by decide) i j
@[simp] theorem ne_li (i j : List Int) : pNe (.list (i.map .int)) (.list (j.map .int)) = some (.bool (decide (i ≠ j))) := ne_dat (α := List Int) (by decide) i j
/-- data without dicts, not deep -/
def plainD : Nat → PyData → Prop
  | 0, _ => False
  | _ + 1, .none => True
  | _ + 1, .bool _ => True
  | _ + 1, .int _ => True
  | _ + 1, .str _ => True
  | k + 1, .list xs => xs.length < 2 ^ 62 ∧ ∀ x ∈ xs, plainD k x
  | k + 1, .tuple xs => xs.length < 2 ^ 62 ∧ ∀ x ∈ xs, plainD k x
  | _ + 1, .dict _ => False
theorem plain_li {k : Nat} {ns : List Int} (h : ns.length < 2 ^ 62) : plainD (k + 2) (li ns) := ⟨by rw [List.length_map]; exact h, fun x hx => by
  obtain ⟨i, _, rfl⟩ := List.mem_map.mp hx
  trivial⟩

/-! lists of whole numbers made by comprehensions -/
theorem lcM_rngI {i : Nat} {e : Evn → RE PyData} {ρ : Evn} {n : Nat} (g : Nat → Int) (h : ∀ k < n, e (stE ρ i (.val (.int k))) = .ok (.int (g k))) : lcM (gN i) mYes e ρ (rangeL 0 n) = .ok (((List.range n).map g).map .int) := by
  rw [lcM_rng (fun k => .int (g k)) h, List.map_map]; rfl
theorem lcM_rngpI {i : Nat} {t : Evn → RE Bool} {e : Evn → RE PyData} {ρ : Evn} {n : Nat} (p : Nat → Bool) (g : Nat → Int) (ht : ∀ k < n, t (stE ρ i (.val (.int k))) = .ok (p k)) (h : ∀ k < n, p k = true → e (stE ρ i (.val (.int k))) = .ok (.int (g k))) : lcM (gN i) t e ρ (rangeL 0 n) = .ok ((((List.range n).filter p).map g).map .int) := by
  rw [lcM_rngp p (fun k => .int (g k)) ht h, List.map_map]; rfl
theorem lcM_liI {i : Nat} {e : Evn → RE PyData} {ρ : Evn} {ns : List Int} (g : Int → Int) (h : ∀ k ∈ ns, e (stE ρ i (.val (.int k))) = .ok (.int (g k))) : lcM (gN i) mYes e ρ (ns.map .int) = .ok ((ns.map g).map .int) := by
  rw [lcM_all (fun k => .int (g k)) (fun x hx => ⟨_, e_gN _ _ _, h x hx⟩), List.map_map]; rfl
theorem lcM_lip {i : Nat} {t : Evn → RE Bool} {e : Evn → RE PyData} {ρ : Evn} {ns : List Int} (p : Int → Bool) (f : Int → PyData) (ht : ∀ k ∈ ns, t (stE ρ i (.val (.int k))) = .ok (p k)) (h : ∀ k ∈ ns, p k = true → e (stE ρ i (.val (.int k))) = .ok (f k)) : lcM (gN i) t e ρ (ns.map .int) = .ok ((ns.filter p).map f) :=
  lcM_map p f fun x hx => ⟨_, e_gN _ _ _, ht x hx, h x hx⟩
theorem getD_rng {g : Nat → Int} {n i : Nat} {d : Int} (h : i < n) : ((List.range n).map g).getD i d = g i := by
  rw [List.getD_eq_getElem?_getD, List.getElem?_map, List.getElem?_range h]; rfl
theorem set_rng {α : Type} (g : Nat → α) (n j : Nat) (v : α) : ((List.range n).map g).set j v = (List.range n).map fun q => if q = j then v else g q := by
  apply List.ext_getElem?
  intro i
  rw [List.getElem?_set, List.getElem?_map, List.getElem?_map, List.length_map, List.length_range]
  by_cases h : j = i
  · subst h
    by_cases hj : j < n
    · rw [List.getElem?_range hj]; simp [hj]
    · rw [List.getElem?_eq_none (by rw [List.length_range]; omega)]; simp [hj]
  · rw [if_neg h]
    by_cases hi : i < n
    · rw [List.getElem?_range hi]; simp [Ne.symm h]
    · rw [List.getElem?_eq_none (by rw [List.length_range]; omega)]; rfl
theorem map_set_int (ns : List Int) (j : Nat) (v : Int) : (ns.map PyData.int).set j (.int v) = (ns.set j v).map .int := by rw [List.map_set]
theorem rep_rng (n : Nat) (v : Int) : (List.replicate n [PyData.int v]).flatten = ((List.range n).map fun _ => v).map .int := by
  induction n with
  | zero => rfl
  | succ n ih => rw [List.replicate_succ', List.flatten_append, ih, List.range_succ, List.map_append, List.map_append]; rfl
theorem ixN_ok {n : Nat} {i : Int} (h0 : 0 ≤ i) (h : i < n) : L2.ixN n i = some i.toNat := by
  unfold L2.ixN
  rw [if_pos h0, if_pos h]

/-! places in lists that are written out -/
@[simp] theorem at_0 {α : Type} (x : α) (r : List α) : L2.atI (x :: r) 0 = some x := atI_ok (by decide) rfl
@[simp] theorem at_1 {α : Type} (x y : α) (r : List α) : L2.atI (x :: y :: r) 1 = some y := atI_ok (by decide) rfl
@[simp] theorem at_2 {α : Type} (x y z : α) (r : List α) : L2.atI (x :: y :: z :: r) 2 = some z := atI_ok (by decide) rfl
@[simp] theorem at_3 {α : Type} (x y z u : α) (r : List α) : L2.atI (x :: y :: z :: u :: r) 3 = some u := atI_ok (by decide) rfl
@[simp] theorem at_4 {α : Type} (x y z u v : α) (r : List α) : L2.atI (x :: y :: z :: u :: v :: r) 4 = some v := atI_ok (by decide) rfl
@[simp] theorem at_5 {α : Type} (x y z u v w : α) (r : List α) : L2.atI (x :: y :: z :: u :: v :: w :: r) 5 = some w := atI_ok (by decide) rfl
open PySem.W in
theorem in_dat {α : Type} [DecidableEq α] [Datum α] (hd : Datum.depth α ≤ 60) (x : α) (xs : List α) : pIn (Datum.toD x) (.list (xs.map Datum.toD)) = some (.bool (decide (x ∈ xs))) := by
  have h : inOk (Datum.toD x) (xs.map Datum.toD) := Or.inl (Nat.le_trans (Datum.depth_le x) hd)
  have e : pIn (Datum.toD x) (.list (xs.map Datum.toD)) = if inOk (Datum.toD x) (xs.map Datum.toD) then some (.bool (inD (Datum.toD x) (xs.map Datum.toD))) else none := by
    cases Datum.toD x <;> rfl
  rw [e, if_pos h]
  unfold inD
  rw [any_datum]
open PySem.W in
theorem notin_dat {α : Type} [DecidableEq α] [Datum α] (hd : Datum.depth α ≤ 60) (x : α) (xs : List α) : pNotIn (Datum.toD x) (.list (xs.map Datum.toD)) = some (.bool (!decide (x ∈ xs))) := by
  have h : inOk (Datum.toD x) (xs.map Datum.toD) := Or.inl (Nat.le_trans (Datum.depth_le x) hd)
  have e : pNotIn (Datum.toD x) (.list (xs.map Datum.toD)) = if inOk (Datum.toD x) (xs.map Datum.toD) then some (.bool (!inD (Datum.toD x) (xs.map Datum.toD))) else none := by
    cases Datum.toD x <;> rfl
  rw [e, if_pos h]
  unfold inD
  rw [any_datum]
@[simp] theorem in_li (i : Int) (ns : List Int) : pIn (.int i) (.list (ns.map .int)) = some (.bool (decide (i ∈ ns))) := in_dat (α := Int) (by decide) i ns
@[simp] theorem notin_li (i : Int) (ns : List Int) : pNotIn (.int i) (.list (ns.map .int)) = some (.bool (!decide (i ∈ ns))) := notin_dat (α := Int) (by decide) i ns

/-! slices -/
theorem sIx_nn {n d : Nat} {i : Int} (h : 0 ≤ i) : HT.sIx n d (some i) = min i.toNat n := by
  show (if i < 0 then (i + (n : Int)).toNat else min i.toNat n) = min i.toNat n
  rw [if_neg (by omega)]
theorem take_min {α : Type} (xs : List α) (k m : Nat) (h : xs.length ≤ m) : xs.take (min k m) = xs.take k := by
  by_cases hk : k ≤ m
  · rw [Nat.min_eq_left hk]
  · rw [Nat.min_eq_right (by omega), List.take_of_length_le h, List.take_of_length_le (by omega)]
theorem cut_nn {α : Type} (xs : List α) {lo hi : Int} (h0 : 0 ≤ lo) (h1 : 0 ≤ hi) : cutA xs (some lo) (some hi) = (xs.drop lo.toNat).take (hi.toNat - lo.toNat) := by
  unfold cutA
  rw [sIx_nn h0, sIx_nn h1]
  by_cases h : lo.toNat ≤ xs.length
  · rw [Nat.min_eq_left h]
    by_cases h2 : hi.toNat ≤ xs.length
    · rw [Nat.min_eq_left h2]
    · rw [Nat.min_eq_right (show xs.length ≤ hi.toNat by omega), List.take_of_length_le (by rw [List.length_drop]; omega), List.take_of_length_le (by rw [List.length_drop]; omega)]
  · rw [Nat.min_eq_right (show xs.length ≤ lo.toNat by omega), List.drop_of_length_le (Nat.le_refl _), List.drop_of_length_le (by omega), List.take_nil, List.take_nil]
theorem cut_xn {α : Type} (xs : List α) {hi : Int} (h1 : 0 ≤ hi) : cutA xs none (some hi) = xs.take hi.toNat := by
  unfold cutA
  rw [HT.sIx_none, sIx_nn h1, List.drop_zero, Nat.sub_zero, take_min _ _ _ (Nat.le_refl _)]
theorem cut_nx {α : Type} (xs : List α) {lo : Int} (h0 : 0 ≤ lo) : cutA xs (some lo) none = xs.drop lo.toNat := by
  unfold cutA
  rw [HT.sIx_none, sIx_nn h0]
  by_cases h : lo.toNat ≤ xs.length
  · rw [Nat.min_eq_left h, List.take_of_length_le (by rw [List.length_drop]; exact Nat.le_refl _)]
  · rw [Nat.min_eq_right (show xs.length ≤ lo.toNat by omega), List.drop_of_length_le (Nat.le_refl _), List.drop_of_length_le (by omega), List.take_nil]
theorem cut_xx {α : Type} (xs : List α) : cutA xs none none = xs := by
  unfold cutA
  rw [HT.sIx_none, HT.sIx_none, List.drop_zero, Nat.sub_zero, List.take_length]

theorem atI_rng {α : Type} {f : Nat → α} {n k : Nat} (h : k < n) : L2.atI ((List.range n).map f) (k : Int) = some (f k) := atI_ok (by omega) (by rw [Int.toNat_natCast, List.getElem?_map, List.getElem?_range h]; rfl)
theorem atI_rngI {g : Nat → Int} {n k : Nat} (h : k < n) : L2.atI (((List.range n).map g).map PyData.int) (k : Int) = some (.int (g k)) := by rw [List.map_map]; exact atI_rng h
theorem atI_liN {ns : List Int} {k : Nat} (h1 : k < ns.length) : L2.atI (ns.map PyData.int) (k : Int) = some (.int (ns.getD k 0)) := by rw [atI_li (by omega) (by omega), Int.toNat_natCast]
end PV
end
section
set_option Elab.async false
set_option linter.all false
set_option maxRecDepth 100000
set_option maxHeartbeats 4000000
namespace PV
open PySem PySem.Spec PySem.Calls PyProof.Rows L2

/-! ### except clauses that name the error, as many as there are -/
/-- where such a suite leads: its name is gone -/
abbrev gonE (i : Nat) (D : Ends) : Ends := { nx := fun σ1 H1 => D.nx (σ1.set i none) H1, rt := D.rt, bk := fun σ1 H1 => D.bk (σ1.set i none) H1, ct := fun σ1 H1 => D.ct (σ1.set i none) H1 }
abbrev Hnd := Value × Nat × (Addr → Value → Option Addr → TS)
def wHs (K : PySem.W.Frag) (Wo : WX) (D : Ends) : List Hnd → WX
  | [] => Wo
  | (c, i, ts) :: r => fun q d σ H => ∃ b, PySem.W.exmOne K q c = some b ∧ (b = true → ∀ a, H a = none → ts a q d (gonE i D) (σ.set i (some (.ref a))) H) ∧ (b = false → wHs K Wo D r q d σ H)
inductive HsOk (X : Cx) : List ExceptHandler → List Hnd → Prop
  | nil : HsOk X [] []
  | cons {x n : Str} {c : Value} {i : Nat} {ts : Addr → Value → Option Addr → TS} {b0 : Stmt} {sts : List Stmt} {p1 p2 : Pos} {es : List ExceptHandler} {l : List Hnd} (hc : Names X x c) (hi : X.N[i]? = some n) (hl : X.env.kindOf n = some .local)
      (hsu : ∀ (a : Addr) (o : Obj) (q : Value) (d : Option Addr) (pn : List (Addr × Obj)), Zc q d o → (∃ vs, o.data = .fields vs) → PSs (X.suite a ((a, o) :: pn)) (b0 :: sts) (ts a q d)) (r : HsOk X es l) :
      HsOk X (.ExceptHandler (some (.Name x p1)) (some n) (b0 :: sts) p2 :: es) ((c, i, ts) :: l)
section
variable {X : Cx} {body : List Stmt} {e0 : ExceptHandler} {es : List ExceptHandler} {l : List Hnd} {pos : Pos} {tb : WX → TS} {Wo : WX}
theorem ps_tryN (h1 : X.stack = X.env :: X.outer) (h2 : X.env.frame = some X.env.locals) (nd : X.N.Nodup) (tk : Takes X Wo)
    (hb : ∀ (W : WX) (pn : List (Addr × Obj)) (xe : Value → Shared → Prop), Takes (X.tr pn xe) W → PassesOwn (model X.prog X.w) X.A X.env xe → PSs (X.tr pn xe) body (tb W))
    (hh : HsOk X (e0 :: es) l) : PS X (.Try body (e0 :: es) [] [] pos) (fun D σ H => tb (wHs X.K Wo D l) D σ H) := by
  refine ⟨fun pn0 s0 σ0 H0 D0 J0 q0 => ?_⟩
  have okX := J0.ok
  have frX : X.A.frames = some (X.env :: X.outer) := by rw [okX.frames, h1]
  refine wpAny_Try_except ?_
  have run := (hb (wHs X.K Wo D0 l) (X.pn ++ pn0) (fun u s₁ => wpAny (model X.prog X.w) X.A (noteFrame u X.env) (fun _ s₂ => wpAny (model X.prog X.w) X.A (setFlight u none) (fun _ s₃ =>
    wpAny (model X.prog X.w) X.A (handleBy u X.env (e0 :: es)) (SP X pn0 D0) X.xe s₃) X.xe s₂) X.xe s₁) (fun u s1 xx => ?_) PassesOwn.looking).run [] s0 σ0 H0 D0 (J0.toTry _) q0
  · refine wpAny_mono run (fun fl s1 out => ?_) (fun _ _ z => z)
    cases fl with
    | next =>
      obtain ⟨σ1, H1, J1, w1⟩ := out
      exact wpAny_execs_nil ⟨σ1, H1, J1.ofTry okX, w1⟩
    | brk =>
      obtain ⟨σ1, H1, J1, w1⟩ := out
      exact ⟨σ1, H1, J1.ofTry okX, w1⟩
    | cont =>
      obtain ⟨σ1, H1, J1, w1⟩ := out
      exact ⟨σ1, H1, J1.ofTry okX, w1⟩
    | ret u =>
      obtain ⟨v1, σ1, H1, J1, r1, w1⟩ := out
      exact ⟨v1, σ1, H1, J1.ofTry okX, r1, w1⟩
  · obtain ⟨a, B, sI, pn1, σ1, H1, q, d, rfl, J1, nb, up, sk, na, eo, ag, wz⟩ := xx
    have J2 : Inv X pn0 σ1 H1 sI := J1.ofTry okX
    have sk2 : Sky B (X.env :: X.outer) a (Zc q d) X.env.locals s1.heap := by rw [← h1]; exact sk
    show wpAny (model X.prog X.w) X.A (noteFrame (.ref a) X.env) _ _ _
    refine Sky.land Zc.steady frX h2 sk2 fun g3 f3 u3 => ?_
    have J3 : Inv X pn0 σ1 H1 { s1 with heap := g3 } := J2.landed nb f3.1 (up.trans u3) eo ag
    obtain ⟨o3, v3, y3, z3, d3⟩ := f3.there
    have off : a ∉ frs (X.env :: X.outer) := fun hm => by
      obtain ⟨_, o', e', hnf⟩ := f3.2.2.1.mem hm
      rw [y3] at e'
      cases e'
      exact hnf _ d3
    have offL : a ≠ X.env.locals := fun z => off (List.mem_filterMap.mpr ⟨X.env, List.mem_cons_self, by rw [h2, z]⟩)
    have offF : a ∉ X.fs := fun hm => by
      obtain ⟨v, hv, w⟩ := List.mem_filterMap.mp hm
      exact off (List.mem_filterMap.mpr ⟨v, List.mem_cons_of_mem _ hv, w⟩)
    have S3 := J3.suite y3 d3 na offL offF
    have ty : PySem.W.Looks (model X.prog X.w) g3 (typeOf (.ref a)) q := fun _ _ _ _ k w => wpAny_typeOf_ref (k _ _ y3) (by rw [z3.1]; exact w)
    have go : ∀ {es' : List ExceptHandler} {l' : List Hnd}, HsOk X es' l' → wHs X.K Wo D0 l' q d σ1 H1 → wpAny (model X.prog X.w) X.A (handleBy (.ref a) X.env es') (SP X pn0 D0) X.xe { s1 with heap := g3 } := by
      intro es' l' hk
      induction hk with
      | nil =>
        intro wo
        refine wpAny_handleBy_nil ?_
        obtain ⟨k1, k2, k3, oe, vs, T, oT, ts', he, hz, hd, hT, hr⟩ := id f3
        unfold PySem.passOn
        refine wpAny_bind (wpAny_field he hd hT ?_)
        rw [if_neg (show ¬ ((Value.ref T == Value.none) = true) from by simp)]
        have last : wpAny (model X.prog X.w) X.A (setFlight (.ref a) X.env.frame) (fun _ s4 => wpAny (model X.prog X.w) X.A (throw (.ref a) : Sem Flow) (SP X pn0 D0) X.xe s4) X.xe { s1 with heap := g3 } := by
          rw [h2]
          refine HandSPX.setFlight_upZ f3 fun g4 y4 u4 => wpAny_throw (tk _ _ ?_)
          exact ⟨a, B, sI, pn0, σ1, H1, q, d, rfl, J2, nb, (up.trans u3).trans u4, .inr (.inr (by rw [h1]; exact y4)), na, eo, ag, wo⟩
        first
          | exact wpAny_bind (wpAny_pure (wpAny_bind last))
          | exact wpAny_bind last
      | @cons x n c i ts b0 sts p1 p2 es2 l2 hc hi hl hsu r ih =>
        intro wo
        obtain ⟨b, w1, w2, w3⟩ := wo
        refine wpAny_handleBy_cons (codeAny_handlers_test ?_) (by intro z; cases z)
        have mt := PySem.W.exm_one (M := model X.prog X.w) (J3.kIn) ty w1
        have name : ∀ {Q E : Value → Shared → Prop}, Q c { s1 with heap := g3 } → wpAny (model X.prog X.w) (X.A.mark (some (.ref a))) (eval (.Name x p1) X.env) Q E { s1 with heap := g3 } := fun {Q E} w => by
          obtain ⟨hg, hdb, hm | ⟨hm, hv, hnn⟩⟩ := hc
          · exact ld_glob (X := X.suite a ((a, o3) :: (X.pn ++ pn0))) S3 hg hm w hdb
          · exact ld_blt (X := X.suite a ((a, o3) :: (X.pn ++ pn0))) S3 hg hm hv w hnn hdb
        refine name (mt.here ?_)
        cases b with
        | false =>
          show wpAny _ X.A (handleBy (.ref a) X.env es2) _ _ _
          exact ih (w3 rfl)
        | true =>
          refine codeAny_handlers_suite_as ?_
          refine HandSPX.lands_againZ f3 fun g4 f4 u4 => ?_
          have J4 : Inv X pn0 σ1 H1 { s1 with heap := g4 } := J2.landed nb f4.1 ((up.trans u3).trans u4) eo ag
          obtain ⟨o4, v4, y4, z4, d4⟩ := f4.there
          have S4 := J4.suite y4 d4 na offL offF
          refine store_ok (X := X.suite a ((a, o4) :: (X.pn ++ pn0))) (v := .ref a) S4 nd hi (.inl hl) rfl (fun s5 S5 => ?_) (.inr hl)
          refine wpAny_mono ((hsu a o4 q d (X.pn ++ pn0) z4 ⟨_, d4⟩).run [] s5 _ H1 _ S5 (w2 rfl a na)) (fun fl s6 out => ?_) (fun _ _ z => z.elim)
          have fin : ∀ {σ6 : L2.St} {H6 : Hp} {Q : Shared → Prop}, Inv (X.suite a ((a, o4) :: (X.pn ++ pn0))) [] σ6 H6 s6 → (∀ s7, Inv X pn0 (σ6.set i none) H6 s7 → Q s7) →
              wpAny (model X.prog X.w) X.A (do bindName X.env n .none; unbindBehindTheSuite X.env n p2) (fun _ s7 => Q s7) X.xe s6 := fun {σ6 H6 Q} S6 w => gone_ok (S6.unsuite okX) nd hi hl w
          cases fl with
          | next =>
            obtain ⟨σ6, H6, S6, w6⟩ := out
            exact fin S6 fun s7 J7 => ⟨_, _, J7, w6⟩
          | brk =>
            obtain ⟨σ6, H6, S6, w6⟩ := out
            exact fin S6 fun s7 J7 => ⟨_, _, J7, w6⟩
          | cont =>
            obtain ⟨σ6, H6, S6, w6⟩ := out
            exact fin S6 fun s7 J7 => ⟨_, _, J7, w6⟩
          | ret u =>
            obtain ⟨v6, σ6, H6, S6, r6, w6⟩ := out
            exact fin S6 fun s7 J7 => ⟨_, _, _, J7, r6, w6⟩
    exact go hh wz
end

/-! ### .. as a meaning -/
/-- no error is held any more -/
def dropX : Evn → Evn
  | [] => []
  | some (.exn _) :: r => none :: dropX r
  | some (.val d) :: r => some (.val d) :: dropX r
  | some (.own ds) :: r => some (.own ds) :: dropX r
  | none :: r => none :: dropX r
theorem dropX_len : ∀ ρ : Evn, (dropX ρ).length = ρ.length
  | [] => rfl
  | none :: r => congrArg (· + 1) (dropX_len r)
  | some (.val _) :: r => congrArg (· + 1) (dropX_len r)
  | some (.own _) :: r => congrArg (· + 1) (dropX_len r)
  | some (.exn _) :: r => congrArg (· + 1) (dropX_len r)
theorem dropX_get : ∀ (ρ : Evn) (i : Nat) (c : Cel), (dropX ρ)[i]? = some (some c) → ρ[i]? = some (some c) ∧ ∀ x, c ≠ .exn x
  | [], _, _, h => by cases h
  | none :: r, 0, _, h => by cases h
  | some (.exn _) :: r, 0, _, h => by cases h
  | some (.val d) :: r, 0, _, h => by cases h; exact ⟨rfl, fun _ e => by cases e⟩
  | some (.own d) :: r, 0, _, h => by cases h; exact ⟨rfl, fun _ e => by cases e⟩
  | none :: r, n + 1, c, h => dropX_get r n c h
  | some (.exn _) :: r, n + 1, c, h => dropX_get r n c h
  | some (.val _) :: r, n + 1, c, h => dropX_get r n c h
  | some (.own _) :: r, n + 1, c, h => dropX_get r n c h
def endX (i : Nat) : RS → RS
  | .ok (fl, ρ) => .ok (fl, (dropX ρ).set i none)
  | _ => .bad
/-- the clause that takes an error of class c -/
def catchM (sub : Str → Str → Bool) : List (Str × Nat × (Evn → RS)) → Str → Evn → RS
  | [], c, ρ => .exc c ρ
  | (h, i, fs) :: r, c, ρ => if sub c h then (if i < ρ.length then endX i (fs (ρ.set i (some (.exn c)))) else .bad) else catchM sub r c ρ
def sTry (L : List Str) (sub : Str → Str → Bool) (hs : List (Str × Nat × (Evn → RS))) (fb : Evn → RS) (ρ : Evn) : RS := match fb ρ with
  | .ok p => .ok p
  | .exc c ρ' => if c ∈ L then catchM sub hs c ρ' else .bad
  | .bad => .bad
/-- the suite's own Pm -/
abbrev Pm.inX (P : Pm) (a : Addr) (c : Str) : Pm := ⟨P.B, P.F0, fun _ _ _ _ => False, some (a, c)⟩
abbrev Pm.wi (P : Pm) (W : WX) : Pm := ⟨P.B, P.F0, W, P.E⟩
theorem Rep.inX {K : PySem.W.Frag} {P : Pm} {ρ : Evn} {F H : Hp} {σ : Sg} {i : Nat} {a : Addr} {c : Str} (hE : P.E = none) (r : Rep K P ρ F σ H) (hi : i < ρ.length) : Rep K (P.inX a c) (ρ.set i (some (.exn c))) F (σ.set i (some (.ref a))) H := by
  refine ⟨by rw [List.length_set, List.length_set]; exact r.len, r.ext, fun j x q => ?_, fun j k b ds es n q1 q2 q3 => ?_⟩
  · by_cases e : i = j
    · subst e
      rw [List.getElem?_set_self hi] at q
      cases q
      exact ⟨.ref a, by rw [List.getElem?_set_self (by rw [← r.len]; exact hi)], a, rfl, rfl⟩
    · rw [List.getElem?_set_ne e] at q
      obtain ⟨v, h1, h2⟩ := r.slot j x q
      refine ⟨v, by rw [List.getElem?_set_ne e]; exact h1, ?_⟩
      cases x with
      | val d => exact h2
      | own ds => exact h2
      | exn y =>
        obtain ⟨b, e1, _⟩ := h2
        rw [hE] at e1
        cases e1
  · have n1 : i ≠ j := fun e => by subst e; rw [List.getElem?_set_self hi] at q1; cases q1
    have n2 : i ≠ k := fun e => by subst e; rw [List.getElem?_set_self hi] at q2; cases q2
    rw [List.getElem?_set_ne n1] at q1 q3
    rw [List.getElem?_set_ne n2] at q2
    rw [List.getElem?_set_ne n2]
    exact r.sep j k b ds es n q1 q2 q3
theorem Rep.outX {K : PySem.W.Frag} {P : Pm} {ρ : Evn} {F H : Hp} {σ : Sg} {i : Nat} {a : Addr} {c : Str} (r : Rep K (P.inX a c) ρ F σ H) : Rep K P (dropX ρ) F σ H := by
  refine ⟨by rw [dropX_len]; exact r.len, r.ext, fun j x q => ?_, fun j k b ds es n q1 q2 q3 => ?_⟩
  · obtain ⟨q1, q2⟩ := dropX_get ρ j x q
    obtain ⟨v, h1, h2⟩ := r.slot j x q1
    refine ⟨v, h1, ?_⟩
    cases x with
    | val d => exact h2
    | own ds => exact h2
    | exn y => exact absurd rfl (q2 y)
  · exact r.sep j k b ds es n (dropX_get ρ j _ q1).1 (dropX_get ρ k _ q2).1 q3
theorem Rep.wi {K : PySem.W.Frag} {P : Pm} {W : WX} {ρ : Evn} {F H : Hp} {σ : Sg} : Rep K (P.wi W) ρ F σ H ↔ Rep K P ρ F σ H :=
  ⟨fun r => ⟨r.len, r.ext, r.slot, r.sep⟩, fun r => ⟨r.len, r.ext, r.slot, r.sep⟩⟩
/-- what a clause's suite does -/
def tsX (X : Cx) (P : Pm) (L : List Str) (fs : Evn → RS) : Addr → Value → Option Addr → TS := fun a q d D σ H => ∃ c C ρ F, c ∈ L ∧ q = .ref C ∧ d = none ∧ X.mg c = some (.ref C) ∧ Rep X.K (P.inX a c) ρ F σ H ∧ OutS X (P.inX a c) D F (fs ρ)
/-- the clauses -/
inductive HV (X : Cx) (P : Pm) (L : List Str) (sub : Str → Str → Bool) : List ExceptHandler → List (Str × Nat × (Evn → RS)) → List Hnd → Prop
  | nil : HV X P L sub [] [] []
  | cons {x n : Str} {cv : Value} {i : Nat} {fs : Evn → RS} {b0 : Stmt} {sts : List Stmt} {p1 p2 : Pos} {es : List ExceptHandler} {hs : List (Str × Nat × (Evn → RS))} {l : List Hnd} (hc : Names X x cv) (hi : X.N[i]? = some n) (hl : X.env.kindOf n = some .local)
      (hx : ∀ c C, c ∈ L → X.mg c = some (.ref C) → PySem.W.exmOne X.K (.ref C) cv = some (sub c x))
      (hsu : ∀ (a : Addr) (o : Obj) (c : Str) (C : Addr) (pn : List (Addr × Obj)), c ∈ L → X.mg c = some (.ref C) → Zc (.ref C) none o → (∃ vs, o.data = .fields vs) → VSs (X.suite a ((a, o) :: pn)) (P.inX a c) (b0 :: sts) fs) (r : HV X P L sub es hs l) :
      HV X P L sub (.ExceptHandler (some (.Name x p1)) (some n) (b0 :: sts) p2 :: es) ((x, i, fs) :: hs) ((cv, i, tsX X P L fs) :: l)
section
variable {X : Cx} {P : Pm} {L : List Str} {sub : Str → Str → Bool} {body : List Stmt} {e0 : ExceptHandler} {es : List ExceptHandler} {hs : List (Str × Nat × (Evn → RS))} {l : List Hnd} {pos : Pos} {fb : Evn → RS}
theorem HV.ok (h : HV X P L sub es hs l) : HsOk X es l := by
  induction h with
  | nil => exact .nil
  | cons hc hi hl hx hsu r ih =>
    refine .cons hc hi hl (fun a o q d pn z w => ⟨fun pins s σ H D I t => ?_⟩) ih
    obtain ⟨c, C, ρ, F, h1, rfl, rfl, h2, h3, h4⟩ := t
    exact (hsu a o c C pn h1 h2 z w).run pins s σ H D I ⟨ρ, F, h3, h4⟩
theorem HV.catch (hE : P.E = none) (h : HV X P L sub es hs l) {D : Ends} {c : Str} {C : Addr} {ρ : Evn} {F F' H' : Hp} {σ' : Sg} (hc : c ∈ L) (hm : X.mg c = some (.ref C)) (sf : Same F F') (r : Rep X.K P ρ F' σ' H')
    (o : OutS X P D F (catchM sub hs c ρ)) : wHs X.K P.W D l (.ref C) none σ' H' := by
  induction h with
  | nil => exact o C σ' H' F' hm sf r
  | @cons x n cv i fs b0 sts p1 p2 es hs l hcn hi hln hx hsu rr ih =>
    refine ⟨sub c x, hx c C hc hm, fun hb a na => ?_, fun hb => ?_⟩
    · unfold catchM at o
      rw [if_pos hb] at o
      have hl : i < ρ.length := by
        by_cases hl : i < ρ.length
        · exact hl
        · rw [if_neg hl] at o
          exact o.elim
      rw [if_pos hl] at o
      refine ⟨c, C, ρ.set i (some (.exn c)), F', hc, rfl, rfl, hm, r.inX hE hl, ?_⟩
      cases q : fs (ρ.set i (some (.exn c))) with
      | bad => rw [q] at o; exact o.elim
      | exc c' ρ' => rw [q] at o; exact o.elim
      | ok p =>
        obtain ⟨fl, ρ'⟩ := p
        rw [q] at o
        cases fl with
        | nx => exact fun σ1 H1 F1 s1 r1 => o _ H1 F1 (sf.trans s1) (Rep.setNone (Rep.outX (i := i) r1))
        | bk => exact fun σ1 H1 F1 s1 r1 => o _ H1 F1 (sf.trans s1) (Rep.setNone (Rep.outX (i := i) r1))
        | ct => exact fun σ1 H1 F1 s1 r1 => o _ H1 F1 (sf.trans s1) (Rep.setNone (Rep.outX (i := i) r1))
        | rt d => exact fun v σ1 H1 F1 s1 r1 hv => o v _ H1 F1 (sf.trans s1) (Rep.setNone (Rep.outX (i := i) r1)) hv
    · unfold catchM at o
      rw [hb, if_neg (by decide)] at o
      exact ih o
theorem vs_try (hE : P.E = none) (nd : X.N.Nodup) (tk : Takes X P.W) (hv : HV X P L sub (e0 :: es) hs l)
    (hb : ∀ (W : WX) (pn : List (Addr × Obj)) (xe : Value → Shared → Prop), Takes (X.tr pn xe) W → PassesOwn (model X.prog X.w) X.A X.env xe → VSs (X.tr pn xe) (P.wi W) body fb)
    (h1 : X.stack = X.env :: X.outer := by rfl) (h2 : X.env.frame = some X.env.locals := by rfl) : VS X P (.Try body (e0 :: es) [] [] pos) (sTry L sub hs fb) :=
  PS_mono (ps_tryN (tb := fun W => tS X (P.wi W) fb) h1 h2 nd tk (fun W pn xe t po => hb W pn xe t po) hv.ok) fun D σ H h => by
    obtain ⟨ρ, F, hR, h⟩ := h
    refine ⟨ρ, F, Rep.wi.mpr hR, ?_⟩
    unfold sTry at h
    cases q : fb ρ with
    | bad => rw [q] at h; exact h.elim
    | ok p =>
      rw [q] at h
      obtain ⟨fl, ρ'⟩ := p
      cases fl with
      | nx => exact fun σ1 H1 F1 s1 r1 => h σ1 H1 F1 s1 (Rep.wi.mp r1)
      | bk => exact fun σ1 H1 F1 s1 r1 => h σ1 H1 F1 s1 (Rep.wi.mp r1)
      | ct => exact fun σ1 H1 F1 s1 r1 => h σ1 H1 F1 s1 (Rep.wi.mp r1)
      | rt d => exact fun v σ1 H1 F1 s1 r1 hv => h v σ1 H1 F1 s1 (Rep.wi.mp r1) hv
    | exc c ρ' =>
      rw [q] at h
      intro C σ1 H1 F1 hm s1 r1
      by_cases hc : c ∈ L
      · simp only [if_pos hc] at h
        have r2 := Rep.wi.mp r1
        exact HV.catch hE hv hc hm s1 r2 h
      · simp only [if_neg hc] at h
        exact h.elim
end

/-! ### isinstance(e, T), e the error that is held -/
def mIsX (sub : Str → Str → Bool) (i : Nat) (x : Str) (ρ : Evn) : RE PyData := match ρ[i]? with
  | some (some (.exn c)) => .ok (.bool (sub c x))
  | _ => .bad
section
variable {X : Cx} {P : Pm} {a : Addr} {o : Obj} {c : Str} {C : Addr} {pn : List (Addr × Obj)} {sub : Str → Str → Bool} {pos p p1 p2 : Pos} {n x : Str}
theorem ve_isX {D : Addr} (i : Nat) (hz : Zc (.ref C) none o) (hf : ∃ vs, o.data = .fields vs) (ex : ExcC X.K C) (hk : PySem.W.kitOne X.K (.ref C) (.ref D) = some (sub c x)) (hg : Gl X "isinstance") (hm : X.mg "isinstance" = none) (hg2 : Gl X x) (hm2 : X.mg x = some (.ref D))
    (hN : X.N[i]? = some n := by rfl) (hv : Vis X.env.scope n := by first | exact Or.inl rfl | exact Or.inr (Or.inl rfl) | exact Or.inr (Or.inr rfl)) (hd : (n == ("__debug__" : Str)) = false := by decide) (hcd : (n == ("__classdict__" : Str)) = false := by decide) (hdb : (x == ("__debug__" : Str)) = false := by decide) :
    VE (X.suite a ((a, o) :: pn)) (P.inX a c) (.Call (.Name "isinstance" p) [.Name n p1, .Name x p2] [] pos) (mIsX sub i x) :=
  PE_mono (pe_callB (X := X.suite a ((a, o) :: pn)) (call_isE (X := X) ex hz hf) hg hm (by decide +kernel) (pa_cons (pe_var (X := X.suite a ((a, o) :: pn)) (i := i) hN hv hd hcd) (pa_cons (pe_glob (X := X.suite a ((a, o) :: pn)) (v := .ref D) hg2 hm2 rfl hdb) pa_nil))) fun σ H Q h => by
    obtain ⟨ρ, F, hR, h⟩ := h
    unfold mIsX at h
    split at h
    · rename_i c' q
      obtain ⟨v, h1, b, e1, e2⟩ := hR.slot i _ q
      cases e1
      subst e2
      exact ⟨_, h1, .ref D, .ref D, _, rfl, fun u hu => hu, hk, h _ H F (Ext.refl hR.fh) (.bl _)⟩
    · exact h.elim
theorem ve_isXb {T : String} (i : Nat) (hz : Zc (.ref C) none o) (hf : ∃ vs, o.data = .fields vs) (ex : ExcC X.K C) (hk : PySem.W.kitOne X.K (.ref C) (.type T) = some (sub c x)) (hg : Gl X "isinstance") (hm : X.mg "isinstance" = none) (hg2 : Gl X x) (hm2 : X.mg x = none) (hb : bootBuiltins x = some (.type T))
    (hN : X.N[i]? = some n := by rfl) (hv : Vis X.env.scope n := by first | exact Or.inl rfl | exact Or.inr (Or.inl rfl) | exact Or.inr (Or.inr rfl)) (hd : (n == ("__debug__" : Str)) = false := by decide) (hcd : (n == ("__classdict__" : Str)) = false := by decide) (hn : x ≠ "__name__" := by decide) (hdb : (x == ("__debug__" : Str)) = false := by decide) :
    VE (X.suite a ((a, o) :: pn)) (P.inX a c) (.Call (.Name "isinstance" p) [.Name n p1, .Name x p2] [] pos) (mIsX sub i x) :=
  PE_mono (pe_callB (X := X.suite a ((a, o) :: pn)) (call_isE (X := X) ex hz hf) hg hm (by decide +kernel) (pa_cons (pe_var (X := X.suite a ((a, o) :: pn)) (i := i) hN hv hd hcd) (pa_cons (pe_bltn (X := X.suite a ((a, o) :: pn)) (v := .ty T) hg2 hm2 hb rfl hn hdb) pa_nil))) fun σ H Q h => by
    obtain ⟨ρ, F, hR, h⟩ := h
    unfold mIsX at h
    split at h
    · rename_i c' q
      obtain ⟨v, h1, b, e1, e2⟩ := hR.slot i _ q
      cases e1
      subst e2
      exact ⟨_, h1, .ty T, .type T, _, rfl, fun u hu => hu, hk, h _ H F (Ext.refl hR.fh) (.bl _)⟩
    · exact h.elim
end
/-! ### raise X('m') -/
section
variable {X : Cx} {P : Pm} {C : Addr} {bmB : List Value} {B newId initId : String} {x m : Str} {j : Nat} {p p2 pos pos' : Pos}
theorem vs_raise (hc : X.calm = true) (tk : Takes X P.W) (F : ExcBaseFacts B newId initId bmB) (q : PySem.W.excIn X.K C bmB newId = true) (gC : X.mg x = some (.ref C)) (kC : PySem.W.keepIn X.K (.ref C) = true) (r : Raises X (.ref C)) (hg : Gl X x) (hdb : (x == ("__debug__" : Str)) = false := by decide) :
    VS X P (.Raise (some (.Call (.Name x p) [.Constant (.str m) j p2] [] pos)) none pos') (fun ρ => .exc x ρ) := PS_mono (ps_raise hc tk (pmk_own F q gC kC r hg hdb)) fun D σ H h => by
  obtain ⟨ρ, F, hR, h⟩ := h
  exact h C σ H F gC (Same.refl _) hR
/-- nothing is claimed of a statement -/
theorem vs_bad {st : Stmt} : VS X P st (fun _ => .bad) := ⟨fun pins s σ H D I h => by
  obtain ⟨ρ, F, hR, h⟩ := h
  exact h.elim⟩
theorem ve_bad {e : Expr} : VE X P e (fun _ => .bad) := ⟨fun pins s σ H Q I h => by
  obtain ⟨ρ, F, hR, h⟩ := h
  exact h.elim⟩
end
end PV
end
section
set_option Elab.async false
set_option linter.all false
set_option maxRecDepth 100000
set_option maxHeartbeats 4000000
namespace PV
open PySem PySem.Spec PySem.Calls PyProof.Rows L2

/-! ### the program's own error classes -/
def isxB (K : PySem.W.Frag) (D : Addr) : Bool :=
  decide (PySem.W.findIn K (.ref D) "__getattribute__" = some (some (.builtin "BaseException.__getattribute__"))) && (decide (PySem.W.findIn K (.ref D) "__getattr__" = some none) && (decide (PySem.W.subIn K (.ref D) (.type "BaseException") = some true) &&
  (PySem.W.hasDictIn K D && (decide (PySem.W.findIn K (.ref D) "__class__" = some (some (.builtin "object.__class__"))) && (decide (PySem.W.specialIn K (.builtin "object.__class__") "__get__" = some (some (.builtin "getset_descriptor.__get__"))) &&
  (decide (PySem.W.takesIn K (.builtin "object.__class__") = some true) && decide (PySem.W.mroIn K D (.type "object") = some true)))))))
theorem isx_ok {K : PySem.W.Frag} {D : Addr} (h : isxB K D = true) : ExcC K D := by
  simp only [isxB, Bool.and_eq_true, decide_eq_true_eq] at h
  obtain ⟨h1, h2, h3, h4, h5, h6, h7, h8⟩ := h
  exact ⟨h1, h2, h3, h4, h5, h6, h7, h8⟩
/-- what is asked of the classes of the list L; sub tells which is under which -/
def excsB (L : List Str) (sub : Str → Str → Bool) (K : PySem.W.Frag) : Bool := L.all fun c => (He.Fa.exc c).ok K && (isxB K (He.ga K c) && (decide (PySem.W.kitOne K (.ref (He.ga K c)) (.type "ValueError") = some (sub c "ValueError")) &&
  (L.all fun x => decide (PySem.W.exmOne K (.ref (He.ga K c)) (.ref (He.ga K x)) = some (sub c x)) && decide (PySem.W.kitOne K (.ref (He.ga K c)) (.ref (He.ga K x)) = some (sub c x)))))
structure ExAll (K : PySem.W.Frag) (mg : Str → Option Value) (L : List Str) (sub : Str → Str → Bool) : Prop where
  mg : ∀ c ∈ L, mg c = some (.ref (He.ga K c))
  ins : ∀ c ∈ L, PySem.W.excIn K (He.ga K c) He.veBase "ValueError.__new__" = true
  kp : ∀ c ∈ L, PySem.W.keepIn K (.ref (He.ga K c)) = true
  be : ∀ c ∈ L, PySem.W.subIn K (.ref (He.ga K c)) (.type "BaseException") = some true ∧ PySem.W.typeIn K (.ref (He.ga K c)) = some (.type "type")
  isx : ∀ c ∈ L, ExcC K (He.ga K c)
  kv : ∀ c ∈ L, PySem.W.kitOne K (.ref (He.ga K c)) (.type "ValueError") = some (sub c "ValueError")
  exm : ∀ c ∈ L, ∀ x ∈ L, PySem.W.exmOne K (.ref (He.ga K c)) (.ref (He.ga K x)) = some (sub c x)
  kit : ∀ c ∈ L, ∀ x ∈ L, PySem.W.kitOne K (.ref (He.ga K c)) (.ref (He.ga K x)) = some (sub c x)
theorem exAll_of {L : List Str} {sub : Str → Str → Bool} {K : PySem.W.Frag} {mg : Str → Option Value} (h : excsB L sub K = true) (hm : ∀ c ∈ L, mg c = some (.ref (He.ga K c))) : ExAll K mg L sub := by
  have key : ∀ c ∈ L, _ := fun c hc => List.all_eq_true.mp h c hc
  simp only [Bool.and_eq_true, decide_eq_true_eq, List.all_eq_true] at key
  exact ⟨hm, fun c hc => (He.exc_ok (key c hc).1).1, fun c hc => (He.exc_ok (key c hc).1).2.1, fun c hc => (He.exc_ok (key c hc).1).2.2, fun c hc => isx_ok (key c hc).2.1, fun c hc => (key c hc).2.2.1, fun c hc x hx => ((key c hc).2.2.2 x hx).1, fun c hc x hx => ((key c hc).2.2.2 x hx).2⟩
section
variable {X : Cx} {P : Pm} {L : List Str} {sub : Str → Str → Bool} {x m n c : Str} {j : Nat} {a C : Addr} {o : Obj} {pn : List (Addr × Obj)} {p p1 p2 pos pos' : Pos}
theorem vs_rai (hc : X.calm = true) (tk : Takes X P.W) (ex : ExAll X.K X.mg L sub) (hx : x ∈ L) (hg : Gl X x) (hdb : (x == ("__debug__" : Str)) = false := by decide) :
    VS X P (.Raise (some (.Call (.Name x p) [.Constant (.str m) j p2] [] pos)) none pos') (fun ρ => .exc x ρ) :=
  vs_raise hc tk PySem.F.excBase_ValueError (ex.ins x hx) (ex.mg x hx) (ex.kp x hx) (raises_own (ex.be x hx).1 (ex.be x hx).2) hg hdb
theorem ve_isx (i : Nat) (ex : ExAll X.K X.mg L sub) (hx : x ∈ L) (hcL : c ∈ L) (hC : X.mg c = some (.ref C)) (hz : Zc (.ref C) none o) (hf : ∃ vs, o.data = .fields vs) (hg : Gl X "isinstance") (hm : X.mg "isinstance" = none) (hg2 : Gl X x)
    (hN : X.N[i]? = some n := by rfl) (hv : Vis X.env.scope n := by first | exact Or.inl rfl | exact Or.inr (Or.inl rfl) | exact Or.inr (Or.inr rfl)) (hd : (n == ("__debug__" : Str)) = false := by decide) (hcd : (n == ("__classdict__" : Str)) = false := by decide) (hdb : (x == ("__debug__" : Str)) = false := by decide) :
    VE (X.suite a ((a, o) :: pn)) (P.inX a c) (.Call (.Name "isinstance" p) [.Name n p1, .Name x p2] [] pos) (mIsX sub i x) := by
  have e := (ex.mg c hcL).symm.trans hC
  cases e
  exact ve_isX i hz hf (ex.isx c hcL) (ex.kit c hcL x hx) hg hm hg2 (ex.mg x hx) hN hv hd hcd hdb
theorem ve_isv (i : Nat) (ex : ExAll X.K X.mg L sub) (hcL : c ∈ L) (hC : X.mg c = some (.ref C)) (hz : Zc (.ref C) none o) (hf : ∃ vs, o.data = .fields vs) (hg : Gl X "isinstance") (hm : X.mg "isinstance" = none) (hg2 : Gl X "ValueError") (hm2 : X.mg "ValueError" = none)
    (hN : X.N[i]? = some n := by rfl) (hv : Vis X.env.scope n := by first | exact Or.inl rfl | exact Or.inr (Or.inl rfl) | exact Or.inr (Or.inr rfl)) (hd : (n == ("__debug__" : Str)) = false := by decide) (hcd : (n == ("__classdict__" : Str)) = false := by decide) :
    VE (X.suite a ((a, o) :: pn)) (P.inX a c) (.Call (.Name "isinstance" p) [.Name n p1, .Name "ValueError" p2] [] pos) (mIsX sub i "ValueError") := by
  have e := (ex.mg c hcL).symm.trans hC
  cases e
  exact ve_isXb i hz hf (ex.isx c hcL) (ex.kv c hcL) hg hm hg2 hm2 (by decide +kernel) hN hv hd hcd
theorem hv_nil : HV X P L sub [] [] [] := .nil
theorem hv_cons {i : Nat} {fs : Evn → RS} {b0 : Stmt} {sts : List Stmt} {es : List ExceptHandler} {hs : List (Str × Nat × (Evn → RS))} {l : List Hnd} (ex : ExAll X.K X.mg L sub) (hx : x ∈ L) (hg : Gl X x) (hi : X.N[i]? = some n) (hl : X.env.kindOf n = some .local)
    (hsu : ∀ (a : Addr) (o : Obj) (c : Str) (C : Addr) (pn : List (Addr × Obj)), c ∈ L → X.mg c = some (.ref C) → Zc (.ref C) none o → (∃ vs, o.data = .fields vs) → VSs (X.suite a ((a, o) :: pn)) (P.inX a c) (b0 :: sts) fs)
    (r : HV X P L sub es hs l) (hdb : (x == ("__debug__" : Str)) = false := by decide) :
    HV X P L sub (.ExceptHandler (some (.Name x p1)) (some n) (b0 :: sts) p2 :: es) ((x, i, fs) :: hs) ((.ref (He.ga X.K x), i, tsX X P L fs) :: l) :=
  .cons ⟨hg, hdb, .inl (ex.mg x hx)⟩ hi hl (fun c C hc hC => by
    have e := (ex.mg c hc).symm.trans hC
    cases e
    exact ex.exm c hc x hx) hsu r
end

/-- a name of the module that stands for a whole number -/
theorem ve_gint {X : Cx} {P : Pm} {x : Str} {i : Int} {p : Pos} (h : ∃ t, X.mg x = some (.int i t)) (hg : Gl X x := by rfl) (hdb : (x == ("__debug__" : Str)) = false := by decide) : VE X P (.Name x p) (mC (.int i)) := by
  obtain ⟨t, h⟩ := h
  exact PE_mono (pe_glob (v := .int i) hg h ⟨t, rfl⟩ hdb) fun σ H Q h => by
    obtain ⟨ρ, F, hR, h⟩ := h
    exact h _ H F (Ext.refl hR.fh) (.int _)
/-- a name of the module that stands for a text -/
theorem ve_gstr {X : Cx} {P : Pm} {x z : Str} {p : Pos} (h : ∃ t, X.mg x = some (.str z t)) (hg : Gl X x := by rfl) (hdb : (x == ("__debug__" : Str)) = false := by decide) (hs : PyData.strOk z = true := by decide +kernel) : VE X P (.Name x p) (mC (.str z)) := by
  obtain ⟨t, h⟩ := h
  exact PE_mono (pe_glob (v := .str z) hg h ⟨t, rfl⟩ hdb) fun σ H Q h => by
    obtain ⟨ρ, F, hR, h⟩ := h
    exact h _ H F (Ext.refl hR.fh) (.str z hs)
/-- a name of the module that stands for a tuple of whole numbers -/
def GTup (K : PySem.W.Frag) (mg : Str → Option Value) (x : Str) (is : List Int) : Prop := ∃ a, mg x = some (.ref a) ∧ ∃ (o : Obj) (its : Array Value) (n : Nat), K.lookup a = some o ∧ o.cls = .type "tuple" ∧ o.data = .seq its n ∧ its.size ≤ sizeLine ∧ Vals (is.map V.int) its.toList
def intsB : List Value → List Int → Bool
  | [], [] => true
  | .int i _ :: r, j :: s => decide (i = j) && intsB r s
  | _, _ => false
theorem intsB_ok : ∀ {us : List Value} {is : List Int}, intsB us is = true → Vals (is.map V.int) us
  | [], [], _ => .nil
  | .int i t :: r, j :: s, h => by
    simp only [intsB, Bool.and_eq_true, decide_eq_true_eq] at h
    obtain ⟨rfl, h⟩ := h
    exact .cons ⟨t, rfl⟩ (intsB_ok h)
  | [], _ :: _, h => by simp [intsB] at h
  | .int _ _ :: _, [], h => by simp [intsB] at h
def tupB (x : Str) (is : List Int) (K : PySem.W.Frag) : Bool := match K.lookup (He.ga K x) with
  | some o => decide (o.cls = .type "tuple") && (match o.data with
    | .seq its _ => decide (its.size ≤ 1000) && intsB its.toList is
    | _ => false)
  | none => false
theorem tup_of {x : Str} {is : List Int} {K : PySem.W.Frag} {mg : Str → Option Value} (h : tupB x is K = true) (hm : mg x = some (.ref (He.ga K x))) : GTup K mg x is := by
  refine ⟨_, hm, ?_⟩
  unfold tupB at h
  split at h
  · rename_i o q
    simp only [Bool.and_eq_true, decide_eq_true_eq] at h
    obtain ⟨h1, h2⟩ := h
    split at h2
    · rename_i its n e
      simp only [Bool.and_eq_true, decide_eq_true_eq] at h2
      exact ⟨o, its, n, q, h1, e, by rw [line_eq]; omega, intsB_ok h2.2⟩
    · cases h2
  · cases h
theorem ints_vd {K : PySem.W.Frag} {F : Hp} : ∀ is : List Int, VdAll K F (is.map V.int) (is.map PyData.int)
  | [] => .nil
  | i :: r => .cons (.int i) (ints_vd r)
theorem ve_gtup {X : Cx} {P : Pm} {x : Str} {is : List Int} {p : Pos} (h : GTup X.K X.mg x is) (hg : Gl X x := by rfl) (hdb : (x == ("__debug__" : Str)) = false := by decide) : VE X P (.Name x p) (mC (.tuple (is.map .int))) := by
  obtain ⟨a, hm, o, its, n, h1, h2, h3, h4, h5⟩ := h
  exact PE_mono (pe_glob (v := .ref a) hg hm rfl hdb) fun σ H Q h => by
    obtain ⟨ρ, F, hR, h⟩ := h
    exact h _ H F (Ext.refl hR.fh) (.tup (.inr ⟨o, its, n, h1, h2, h3, h4, h5⟩) (by rw [Vals.length h5]; rw [Array.length_toList]; exact h4) (ints_vd is))
/-! ### reckoned -/
/-- the error that a name holds -/
def gtX : Evn → Nat → Option Str
  | [], _ => none
  | some (.exn c) :: _, 0 => some c
  | some (.val _) :: _, 0 => none
  | some (.own _) :: _, 0 => none
  | none :: _, 0 => none
  | _ :: r, n + 1 => gtX r n
@[simp] theorem gx_v (c : Str) (r : Evn) : gtX (some (.exn c) :: r) 0 = some c := nr rfl
@[simp] theorem gx_s (o : Option Cel) (r : Evn) (n : Nat) : gtX (o :: r) (n + 1) = gtX r n := by cases o with
  | none => rfl
  | some c => cases c <;> rfl
@[simp] theorem e_mIsX (sub : Str → Str → Bool) (i : Nat) (x : Str) (ρ : Evn) : mIsX sub i x ρ = (ofO (gtX ρ i)).bind fun c => .ok (.bool (sub c x)) := by
  unfold mIsX
  induction ρ generalizing i with
  | nil => rfl
  | cons o r ih => cases i with
    | zero => rcases o with _ | ⟨_ | _ | _⟩ <;> rfl
    | succ n => rw [List.getElem?_cons_succ, gx_s]; exact ih n
def tryC (L : List Str) (sub : Str → Str → Bool) (hs : List (Str × Nat × (Evn → RS))) : RS → RS
  | .ok p => .ok p
  | .exc c ρ => if c ∈ L then catchM sub hs c ρ else .bad
  | .bad => .bad
@[simp] theorem e_sTry (L : List Str) (sub : Str → Str → Bool) (hs : List (Str × Nat × (Evn → RS))) (fb : Evn → RS) (ρ : Evn) : sTry L sub hs fb ρ = tryC L sub hs (fb ρ) := by
  unfold sTry tryC
  cases fb ρ <;> rfl
@[simp] theorem tc_ok (L : List Str) (sub : Str → Str → Bool) (hs : List (Str × Nat × (Evn → RS))) (p : Fl × Evn) : tryC L sub hs (.ok p) = .ok p := nr rfl
@[simp] theorem tc_exc (L : List Str) (sub : Str → Str → Bool) (hs : List (Str × Nat × (Evn → RS))) (c : Str) (ρ : Evn) : tryC L sub hs (.exc c ρ) = if c ∈ L then catchM sub hs c ρ else .bad := nr rfl
@[simp] theorem cm_nil (sub : Str → Str → Bool) (c : Str) (ρ : Evn) : catchM sub [] c ρ = .exc c ρ := nr rfl
@[simp] theorem cm_cons (sub : Str → Str → Bool) (h : Str) (i : Nat) (fs : Evn → RS) (r : List (Str × Nat × (Evn → RS))) (c : Str) (ρ : Evn) : catchM sub ((h, i, fs) :: r) c ρ = if sub c h = true then (if i < ρ.length then endX i (fs (stE ρ i (.exn c))) else .bad) else catchM sub r c ρ := by
  rw [← set_stE]; exact id rfl
@[simp] theorem ex_ok (i : Nat) (fl : Fl) (ρ : Evn) : endX i (.ok (fl, ρ)) = .ok (fl, clE (dropX ρ) i) := by rw [← set_clE]; exact id rfl
@[simp] theorem dx_nil : dropX [] = [] := nr rfl
@[simp] theorem dx_v (d : PyData) (r : Evn) : dropX (some (.val d) :: r) = some (.val d) :: dropX r := nr rfl
@[simp] theorem dx_o (d : List PyData) (r : Evn) : dropX (some (.own d) :: r) = some (.own d) :: dropX r := nr rfl
@[simp] theorem dx_x (c : Str) (r : Evn) : dropX (some (.exn c) :: r) = none :: dropX r := nr rfl
@[simp] theorem dx_n (r : Evn) : dropX (none :: r) = none :: dropX r := nr rfl
@[simp] theorem at_exx (c : Str) (u : Unit) (ρ : Evn) : R.at (.exc c u : RE PyData) ρ = .exc c ρ := nr rfl
end PV
end
section
set_option Elab.async false
set_option linter.all false
set_option maxRecDepth 100000
set_option maxHeartbeats 4000000
namespace PV
open PySem

/-! ### likeness of plain data with themselves -/
theorem eqvAll_self : ∀ {xs : List PyData}, (∀ x ∈ xs, PyData.eqv x x = true) → PyData.eqvAll xs xs = true
  | [], _ => by simp only [PyData.eqvAll]
  | x :: r, h => by
    simp only [PyData.eqvAll]
    rw [h x (List.mem_cons_self ..), eqvAll_self (fun y hy => h y (List.mem_cons_of_mem _ hy))]
    rfl
theorem eqv_self : ∀ (k : Nat) (d : PyData), plainD k d → PyData.eqv d d = true
  | 0, _, h => h.elim
  | k + 1, .none, _ => by simp only [PyData.eqv]
  | k + 1, .bool b, _ => by simp [PyData.eqv]
  | k + 1, .int b, _ => by simp [PyData.eqv]
  | k + 1, .str b, _ => by simp [PyData.eqv]
  | k + 1, .list xs, h => by
    simp only [PyData.eqv]
    exact eqvAll_self fun x hx => eqv_self k x (h.2 x hx)
  | k + 1, .tuple xs, h => by
    simp only [PyData.eqv]
    exact eqvAll_self fun x hx => eqv_self k x (h.2 x hx)
  | k + 1, .dict _, h => h.elim
theorem depthAll_le {k : Nat} : ∀ {xs : List PyData}, (∀ x ∈ xs, x.depth ≤ k) → PyData.depthAll xs ≤ k
  | [], _ => Nat.zero_le _
  | x :: r, h => by
    simp only [PyData.depthAll]
    exact Nat.max_le.mpr ⟨h x (List.mem_cons_self ..), depthAll_le fun y hy => h y (List.mem_cons_of_mem _ hy)⟩
theorem depth_plain : ∀ (k : Nat) (d : PyData), plainD k d → d.depth ≤ k
  | 0, _, h => h.elim
  | k + 1, .none, _ => Nat.zero_le _
  | k + 1, .bool b, _ => Nat.zero_le _
  | k + 1, .int b, _ => Nat.zero_le _
  | k + 1, .str b, _ => Nat.zero_le _
  | k + 1, .list xs, h => by
    simp only [PyData.depth]
    exact Nat.succ_le_succ (depthAll_le fun x hx => depth_plain k x (h.2 x hx))
  | k + 1, .tuple xs, h => by
    simp only [PyData.depth]
    exact Nat.succ_le_succ (depthAll_le fun x hx => depth_plain k x (h.2 x hx))
  | k + 1, .dict _, h => h.elim
theorem eq_self {k : Nat} {d : PyData} (hk : k ≤ 64) (h : plainD k d) : pEq d d = some (.bool true) := by
  unfold pEq
  rw [if_pos (show eqOk d d from Or.inl (Nat.le_trans (depth_plain k d h) hk)), eqv_self k d h]
theorem ne_self {k : Nat} {d : PyData} (hk : k ≤ 64) (h : plainD k d) : pNe d d = some (.bool false) := by
  unfold pNe
  rw [if_pos (show eqOk d d from Or.inl (Nat.le_trans (depth_plain k d h) hk)), eqv_self k d h]
  rfl
open PySem.W in
theorem eq_pr (a b c d : Int) : pEq (.tuple [.int a, .int b]) (.tuple [.int c, .int d]) = some (.bool (decide ((a, b) = (c, d)))) := eq_dat (α := Int × Int) (by decide) (a, b) (c, d)
open PySem.W in
theorem ne_pr (a b c d : Int) : pNe (.tuple [.int a, .int b]) (.tuple [.int c, .int d]) = some (.bool (decide ((a, b) ≠ (c, d)))) := ne_dat (α := Int × Int) (by decide) (a, b) (c, d)

/-! ### greatest, least -/
theorem lmax_some {ns : List Int} (h : ns ≠ []) : ∃ m, lmax ns = some m ∧ m ∈ ns ∧ ∀ y ∈ ns, y ≤ m := by
  cases ns with
  | nil => exact absurd rfl h
  | cons n r =>
    obtain ⟨h1, h2, h3⟩ := foldl_max r n
    refine ⟨_, rfl, ?_, ?_⟩
    · rcases h1 with h1 | h1
      · rw [h1]; exact List.mem_cons_self ..
      · exact List.mem_cons_of_mem _ h1
    · intro y hy
      rcases List.mem_cons.mp hy with rfl | hy
      · exact h2
      · exact h3 y hy
theorem lmin_some {ns : List Int} (h : ns ≠ []) : ∃ m, lmin ns = some m ∧ m ∈ ns ∧ ∀ y ∈ ns, m ≤ y := by
  cases ns with
  | nil => exact absurd rfl h
  | cons n r =>
    obtain ⟨h1, h2, h3⟩ := foldl_min r n
    refine ⟨_, rfl, ?_, ?_⟩
    · rcases h1 with h1 | h1
      · rw [h1]; exact List.mem_cons_self ..
      · exact List.mem_cons_of_mem _ h1
    · intro y hy
      rcases List.mem_cons.mp hy with rfl | hy
      · exact h2
      · exact h3 y hy
/-! ### sizes -/
theorem log2_sz {i : Int} {a : Nat} (hi : i.natAbs < 2 ^ a) : i.natAbs.log2 ≤ a := by
  by_cases h : i.natAbs = 0
  · rw [h]; exact Nat.zero_le _
  · exact Nat.le_of_lt ((Nat.log2_lt h).mpr hi)
theorem mulOk_sz {i j : Int} {a b : Nat} (hi : i.natAbs < 2 ^ a) (hj : j.natAbs < 2 ^ b) (h : a + b ≤ 900000) : mulOk i j := by
  have h1 := log2_sz hi
  have h2 := log2_sz hj
  exact .inr (.inr (by omega))
theorem divOk_sz {j : Int} {b : Nat} (h0 : j ≠ 0) (hj : j.natAbs < 2 ^ b) (h : b < 9000) : divOk j := by
  have h1 := log2_sz hj
  exact ⟨h0, by omega⟩
theorem pow_le_pow2 {a b : Nat} (h : a ≤ b) : 2 ^ a ≤ 2 ^ b := Nat.pow_le_pow_right (by decide) h
theorem mul_sz {i j : Int} {a b : Nat} (hi : i.natAbs < 2 ^ a) (hj : j.natAbs < 2 ^ b) : (i * j).natAbs < 2 ^ (a + b) := by
  rw [Int.natAbs_mul, Nat.pow_add]
  exact Nat.mul_lt_mul'' hi hj
theorem add_sz {i j : Int} {a : Nat} (hi : i.natAbs < 2 ^ a) (hj : j.natAbs < 2 ^ a) : (i + j).natAbs < 2 ^ (a + 1) := by
  have := Int.natAbs_add_le i j
  rw [Nat.pow_succ]
  omega
theorem sub_sz {i j : Int} {a : Nat} (hi : i.natAbs < 2 ^ a) (hj : j.natAbs < 2 ^ a) : (i - j).natAbs < 2 ^ (a + 1) := by
  have := Int.natAbs_add_le i (-j)
  rw [Int.natAbs_neg] at this
  rw [Nat.pow_succ, Int.sub_eq_add_neg]
  omega

/-! ### fractions -/
abbrev qd (q : Rat) : PyData := .tuple [.int q.num, .int q.den]
def Sz (n : Nat) (q : Rat) : Prop := q.num.natAbs < 2 ^ n ∧ q.den < 2 ^ n
theorem Sz.mono {a b : Nat} {q : Rat} (h : Sz a q) (hab : a ≤ b) : Sz b q := ⟨Nat.lt_of_lt_of_le h.1 (pow_le_pow2 hab), Nat.lt_of_lt_of_le h.2 (pow_le_pow2 hab)⟩
theorem Sz.dn {a : Nat} {q : Rat} (h : Sz a q) : (q.den : Int).natAbs < 2 ^ a := by rw [Int.natAbs_natCast]; exact h.2
theorem den_pos (q : Rat) : (0 : Int) < q.den := by have := q.den_pos; omega
theorem divInt_parts {t b : Int} (hb : 0 < b) : (Rat.divInt t b).num = t / ((Nat.gcd t.natAbs b.natAbs : Nat) : Int) ∧ (((Rat.divInt t b).den : Nat) : Int) = b / ((Nat.gcd t.natAbs b.natAbs : Nat) : Int) := by
  have h1 := Rat.num_divInt t b
  have h2 := Rat.den_divInt t b
  have e : b.gcd t = Nat.gcd t.natAbs b.natAbs := by rw [Int.gcd, Nat.gcd_comm]
  rw [e] at h1 h2
  constructor
  · rw [h1, Int.sign_eq_one_of_pos hb, Int.one_mul]
  · rw [h2, if_neg (by omega), Int.natCast_ediv, Int.natAbs_of_nonneg (by omega)]
theorem divInt_flip (t b : Int) (hb : b ≠ 0) : Rat.divInt (-t) (-b) = Rat.divInt t b := (Rat.divInt_eq_divInt_iff (by omega) hb).mpr (by rw [Int.neg_mul, Int.mul_neg])
theorem divInt_sz {t b : Int} {n : Nat} (hb : b ≠ 0) (h1 : t.natAbs < 2 ^ n) (h2 : b.natAbs < 2 ^ n) : Sz n (Rat.divInt t b) := by
  have key : ∀ (t b : Int), 0 < b → t.natAbs < 2 ^ n → b.natAbs < 2 ^ n → Sz n (Rat.divInt t b) := by
    intro t b hb h1 h2
    obtain ⟨e1, e2⟩ := divInt_parts (t := t) hb
    have g0 : 0 < Nat.gcd t.natAbs b.natAbs := Nat.gcd_pos_of_pos_right _ (by omega)
    constructor
    · rw [e1, Int.natAbs_ediv_of_dvd (Int.ofNat_dvd_left.mpr (Nat.gcd_dvd_left _ _)), Int.natAbs_natCast]
      exact Nat.lt_of_le_of_lt (Nat.div_le_self _ _) h1
    · have : ((Rat.divInt t b).den : Int).natAbs < 2 ^ n := by
        rw [e2, Int.natAbs_ediv_of_dvd (Int.ofNat_dvd_left.mpr (Nat.gcd_dvd_right _ _)), Int.natAbs_natCast]
        exact Nat.lt_of_le_of_lt (Nat.div_le_self _ _) h2
      rw [Int.natAbs_natCast] at this
      exact this
  by_cases h : 0 < b
  · exact key t b h h1 h2
  · rw [← divInt_flip t b hb]
    exact key (-t) (-b) (by omega) (by rw [Int.natAbs_neg]; exact h1) (by rw [Int.natAbs_neg]; exact h2)
theorem add_eq (p q : Rat) : Rat.divInt (p.num * q.den + q.num * p.den) (p.den * q.den) = p + q := by
  have h1 := den_pos p
  have h2 := den_pos q
  rw [← Rat.divInt_add_divInt p.num q.num (by omega) (by omega), Rat.num_divInt_den, Rat.num_divInt_den]
theorem sub_eq (p q : Rat) : Rat.divInt (p.num * q.den - q.num * p.den) (p.den * q.den) = p - q := by
  have h1 := den_pos p
  have h2 := den_pos q
  rw [← Rat.divInt_sub_divInt p.num q.num (by omega) (by omega), Rat.num_divInt_den, Rat.num_divInt_den]
theorem mul_eq (p q : Rat) : Rat.divInt (p.num * q.num) (p.den * q.den) = p * q := by
  rw [← Rat.divInt_mul_divInt p.num q.num, Rat.num_divInt_den, Rat.num_divInt_den]
theorem div_mul (p q : Rat) (hq : q.num ≠ 0) : Rat.divInt (p.num * q.den) (p.den * q.num) * q = p := by
  have h1 := den_pos p
  have h2 := den_pos q
  have e : Rat.divInt (p.num * q.den) (p.den * q.num) * q = Rat.divInt (p.num * q.den * q.num) (p.den * q.num * q.den) := by
    have := Rat.divInt_mul_divInt (p.num * q.den) q.num (d₁ := p.den * q.num) (d₂ := q.den)
    rw [Rat.num_divInt_den] at this
    exact this
  rw [e]
  have : p.den * q.num * q.den ≠ 0 := Int.mul_ne_zero (Int.mul_ne_zero (by omega) hq) (by omega)
  have e2 : Rat.divInt (p.num * q.den * q.num) (p.den * q.num * q.den) = Rat.divInt p.num p.den := (Rat.divInt_eq_divInt_iff this (by omega)).mpr (by
    simp only [Int.mul_comm, Int.mul_left_comm, Int.mul_assoc])
  rw [e2, Rat.num_divInt_den]
theorem plain_qd {k : Nat} (q : Rat) : plainD (k + 2) (qd q) := ⟨by simp, fun x hx => by
  simp only [List.mem_cons, List.not_mem_nil, or_false] at hx
  rcases hx with rfl | rfl <;> trivial⟩
theorem ne_qd (q : Rat) : pNe (qd q) (qd q) = some (.bool false) := ne_self (k := 2) (by decide) (plain_qd (k := 0) q)
end PV
end
section
set_option Elab.async false
set_option linter.all false
set_option maxRecDepth 100000
set_option maxHeartbeats 4000000
namespace PV
open PySem

/-! ### sorted lists of whole numbers, of pairs of them -/
def leI (a b : Int) : Bool := decide (a ≤ b)
def leP (a b : Int × Int) : Bool := decide (a.1 < b.1) || (decide (a.1 = b.1) && decide (a.2 ≤ b.2))
abbrev pr (x : Int × Int) : PyData := .tuple [.int x.1, .int x.2]
theorem sort_li (ns : List Int) : bSorted [li ns] = some (li (ns.mergeSort leI)) := by
  have ok : sortOk (ns.map PyData.int) := by
    refine ⟨fun d hd d' hd' => ?_, PySem.W.Sortable.others fun b => ⟨(fun e => nomatch e), fun xs e => nomatch e⟩, fun d hd => ?_⟩
    · obtain ⟨i, _, rfl⟩ := List.mem_map.mp hd
      obtain ⟨j, _, rfl⟩ := List.mem_map.mp hd'
      simp [PySem.W.alike]
    · obtain ⟨i, _, rfl⟩ := List.mem_map.mp hd
      exact Nat.zero_le _
  have e := PySem.W.sort_maps (r := leI) (s := leD) PyData.int (l := ns) fun a _ b _ => by
    unfold leI leD
    rw [PySem.W.dataLt_int]
    by_cases h : a ≤ b
    · rw [decide_eq_true h, decide_eq_false (by omega)]; rfl
    · rw [decide_eq_false h, decide_eq_true (by omega)]; rfl
  unfold bSorted
  exact (if_pos ok).trans (by rw [← e])
theorem dataLt_pr (x y : Int × Int) : PySem.W.dataLt (pr x) (pr y) = (decide (x.1 < y.1) || (decide (x.1 = y.1) && decide (x.2 < y.2))) := by
  unfold pr
  rw [PySem.W.dataLt_pair (by simp [PySem.W.alike]) (by simp [PySem.W.alike]), PySem.W.dataLt_int, PySem.W.dataLt_int]
  simp only [PyData.eqv, beq_iff_eq]
  by_cases h1 : x.1 = y.1
  · rw [if_pos h1]
    by_cases h2 : x.2 = y.2
    · rw [if_pos h2, decide_eq_false (show ¬ x.1 < y.1 by omega), decide_eq_false (show ¬ x.2 < y.2 by omega), Bool.and_false]; rfl
    · rw [if_neg h2, decide_eq_false (show ¬ x.1 < y.1 by omega), decide_eq_true h1]; rfl
  · rw [if_neg h1, decide_eq_false h1, Bool.false_and, Bool.or_false]
theorem sort_pr (ps : List (Int × Int)) : bSorted [.list (ps.map pr)] = some (.list ((ps.mergeSort leP).map pr)) := by
  have ok : sortOk (ps.map pr) := by
    refine ⟨fun d hd d' hd' => ?_, PySem.W.Sortable.tuples fun b => ⟨_, _, rfl⟩, fun d hd => ?_⟩
    · obtain ⟨i, _, rfl⟩ := List.mem_map.mp hd
      obtain ⟨j, _, rfl⟩ := List.mem_map.mp hd'
      simp [PySem.W.alike, PySem.W.alikeAll]
    · obtain ⟨i, _, rfl⟩ := List.mem_map.mp hd
      simp [PyData.depth, PyData.depthAll]
  have e := PySem.W.sort_maps (r := leP) (s := leD) pr (l := ps) fun a _ b _ => by
    unfold leP leD
    rw [dataLt_pr]
    by_cases h : a.1 < b.1
    · rw [decide_eq_true h, decide_eq_false (show ¬ b.1 < a.1 by omega), decide_eq_false (show ¬ b.1 = a.1 by omega)]; rfl
    · by_cases h2 : a.1 = b.1
      · rw [decide_eq_false h, decide_eq_true h2, decide_eq_false (show ¬ b.1 < a.1 by omega), decide_eq_true h2.symm]
        by_cases h3 : a.2 ≤ b.2
        · rw [decide_eq_true h3, decide_eq_false (show ¬ b.2 < a.2 by omega)]; rfl
        · rw [decide_eq_false h3, decide_eq_true (show b.2 < a.2 by omega)]; rfl
      · rw [decide_eq_false h, decide_eq_false h2, decide_eq_true (show b.1 < a.1 by omega)]; rfl
  unfold bSorted
  exact (if_pos ok).trans (by rw [← e])
theorem leI_sorted (ns : List Int) : List.Pairwise (fun a b => a ≤ b) (ns.mergeSort leI) := by
  have := List.pairwise_mergeSort (le := leI) (fun a b c h1 h2 => by
    unfold leI at *
    have := of_decide_eq_true h1
    have := of_decide_eq_true h2
    exact decide_eq_true (by omega)) (fun a b => by
    unfold leI
    rcases Int.le_total a b with h | h
    · rw [decide_eq_true h, Bool.true_or]
    · rw [decide_eq_true h, Bool.or_true]) ns
  exact this.imp fun h => of_decide_eq_true h
theorem leI_mem {ns : List Int} {x : Int} : x ∈ ns.mergeSort leI ↔ x ∈ ns := (List.mergeSort_perm ns leI).mem_iff
theorem leI_len (ns : List Int) : (ns.mergeSort leI).length = ns.length := (List.mergeSort_perm ns leI).length_eq
end PV
end
section
set_option Elab.async false
set_option linter.all false
set_option maxRecDepth 100000
set_option maxHeartbeats 4000000
namespace PV
open PySem PySem.Spec PySem.Calls PyProof.Rows L2

/-! ### list(range(..)), x[::-1] -/
def lrgOk (a b : Int) : Prop := -(2 ^ 62) ≤ a ∧ a < 2 ^ 62 ∧ -(2 ^ 62) ≤ b ∧ b < 2 ^ 62 ∧ (b - a).toNat ≤ 2 ^ 24
instance (a b : Int) : Decidable (lrgOk a b) := by unfold lrgOk; exact inferInstance
def pLrg : PyData → PyData → RE (List PyData)
  | .int a, .int b => if lrgOk a b then .ok (rangeL a (b - a).toNat) else .bad
  | _, _ => .bad
def mLrg1 (fa : Evn → RE PyData) (ρ : Evn) : RE (List PyData) := (fa ρ).bind fun d => pLrg (.int 0) d
def mLrg2 (fa fb : Evn → RE PyData) (ρ : Evn) : RE (List PyData) := (fa ρ).bind fun d => (fb ρ).bind fun e => pLrg d e
theorem rg_vd {K : PySem.W.Frag} {F : Hp} (a b : Int) : VdAll K F (rgV a b) (rangeL a (b - a).toNat) := by
  unfold rgV rangeL
  generalize List.range (b - a).toNat = l
  induction l with
  | nil => exact .nil
  | cons i r ih => exact .cons (.int _) ih
theorem rg_line {a b : Int} (h : lrgOk a b) : (rgV a b).length ≤ sizeLine := by
  rw [rgV_length, line_eq]; exact h.2.2.2.2
section
variable {X : Cx} {P : Pm} {a b : Expr} {fa fb : Evn → RE PyData} {p p2 pos pos2 : Pos}
theorem vf_lrg1 (hc : X.calm = true) (hg : Gl X "list") (hm : X.mg "list" = none) (hg2 : Gl X "range") (hm2 : X.mg "range" = none) (ha : VE X P a fa)
    (na : starEach [a] X.env = (false, eval a X.env) :: starEach [] X.env := by rfl) :
    VF X P (.Call (.Name "list" p) [.Call (.Name "range" p2) [a] [] pos2] [] pos) (mLrg1 fa) := PE_mono (pe_listRg hc hg hm (prg_1 hg2 hm2 ha na)) fun σ H Q h => by
  obtain ⟨ρ, F, hR, h⟩ := h
  refine OutF.first hR h fun d v F1 H1 e1 hv R1 h1 => ?_
  cases hv with
  | int n =>
    have h1' : OutF X P σ Q F1 H1 (if lrgOk 0 n then .ok (rangeL 0 (n - 0).toNat) else .bad) := h1
    by_cases hr : lrgOk 0 n
    · rw [if_pos hr] at h1'
      exact ⟨n, rfl, hr, OutF.new R1.fh h1' (rg_line hr) (rg_vd 0 n)⟩
    · rw [if_neg hr] at h1'; exact h1'.elim
  | _ => exact h1.elim
theorem vf_lrg2 (hc : X.calm = true) (hg : Gl X "list") (hm : X.mg "list" = none) (hg2 : Gl X "range") (hm2 : X.mg "range" = none) (ha : VE X P a fa) (hb : VE X P b fb)
    (na : starEach [a, b] X.env = (false, eval a X.env) :: starEach [b] X.env := by rfl) (nb : starEach [b] X.env = (false, eval b X.env) :: starEach [] X.env := by rfl) (hp : (backTo pos2 (starEach [b] X.env)).any (·.1) = false := by rfl) :
    VF X P (.Call (.Name "list" p) [.Call (.Name "range" p2) [a, b] [] pos2] [] pos) (mLrg2 fa fb) := PE_mono (pe_listRg hc hg hm (prg_2 hg2 hm2 ha hb na nb hp)) fun σ H Q h => by
  obtain ⟨ρ, F, hR, h⟩ := h
  refine OutF.first hR h fun d v F1 H1 e1 hv R1 h1 => ?_
  refine OutF.first R1 h1 fun d2 v2 F2 H2 e2 hv2 R2 h2 => ?_
  cases hv with
  | int i =>
    cases hv2 with
    | int n =>
      have h1' : OutF X P σ Q F2 H2 (if lrgOk i n then .ok (rangeL i (n - i).toNat) else .bad) := h2
      by_cases hr : lrgOk i n
      · rw [if_pos hr] at h1'
        exact ⟨i, n, rfl, rfl, hr, OutF.new R2.fh h1' (rg_line hr) (rg_vd i n)⟩
      · rw [if_neg hr] at h1'; exact h1'.elim
    | _ => exact h2.elim
  | _ => cases hv2 <;> exact h2.elim
/-- x[::-1] -/
theorem vf_revS {k : Nat} {p1 p3 : Pos} (ha : VE X P a fa) : VF X P (.Subscript a (.Slice none none (some (.UnaryOp .USub (.Constant (.int 1) k p1) p2)) p3) pos) (mBind fa pRevL) := PE_mono (L2.pe_revL ha) fun σ H Q h => by
  obtain ⟨ρ, F, hR, h⟩ := h
  refine OutF.first hR h fun d v F1 H1 e1 hv R1 h1 => ?_
  cases hv with
  | lst hs hz hd => exact ⟨_, _, rfl, R1.fh.seq hs, OutF.new R1.fh h1 (by rw [List.length_reverse]; exact hz) hd.reverse⟩
  | _ => exact h1.elim
end
@[simp] theorem e_mLrg1 (fa : Evn → RE PyData) (ρ : Evn) : mLrg1 fa ρ = (fa ρ).bind fun d => pLrg (.int 0) d := nr rfl
@[simp] theorem e_mLrg2 (fa fb : Evn → RE PyData) (ρ : Evn) : mLrg2 fa fb ρ = (fa ρ).bind fun d => (fb ρ).bind fun e => pLrg d e := nr rfl
@[simp] theorem d_lrg (a b : Int) : pLrg (.int a) (.int b) = if lrgOk a b then .ok (rangeL a (b - a).toNat) else .bad := nr rfl
end PV
end
section
set_option Elab.async false
set_option linter.all false
set_option maxRecDepth 100000
set_option maxHeartbeats 4000000
namespace PV
open PySem PySem.Spec PySem.Calls PyProof.Rows L2

/-! ### min, max of a list of alike data -/
def mmOk (ds : List PyData) : Prop := PySem.W.AlikeAll ds ∧ ∀ d ∈ ds, d.depth ≤ 60
open Classical in
noncomputable def bMinD : List PyData → Option PyData
  | [.list (x :: xs)] => if mmOk (x :: xs) then some (PySem.W.minD x xs) else none
  | _ => none
open Classical in
noncomputable def bMaxD : List PyData → Option PyData
  | [.list (x :: xs)] => if mmOk (x :: xs) then some (PySem.W.maxD x xs) else none
  | _ => none
theorem depthAll_mm : ∀ {ds : List PyData}, (∀ d ∈ ds, d.depth ≤ 60) → PyData.depthAll ds ≤ 60
  | [], _ => Nat.zero_le _
  | d :: r, h => by
    simp only [PyData.depthAll]
    exact Nat.max_le.mpr ⟨h d (List.mem_cons_self ..), depthAll_mm fun y hy => h y (List.mem_cons_of_mem _ hy)⟩
section
variable {X : Cx}
theorem vd_all_dp {F : Hp} : ∀ {vs : List V} {ds : List PyData}, VdAll X.K F vs ds → DpAll X.K F vs ds
  | _, _, .nil => .nil
  | _, _, .cons h t => .cons (Vd.dp _ _ h).1 (vd_all_dp t)
theorem cb_minD {k : Nat} (hr : Room k X.A) : CallR X (.builtin "min") (rCV X bMinD) := by
  intro pins s σ H xs us Q I r h
  obtain ⟨F, ds, d, sf, hv, hg, hq⟩ := h
  unfold bMinD at hg
  split at hg
  · rename_i e es
    by_cases hp : mmOk (e :: es)
    case neg => rw [if_neg hp] at hg; cases hg
    rw [if_pos hp] at hg
    cases hg
    obtain ⟨v, rfl, h1⟩ := vd1 hv
    cases h1 with
    | @lst a ys _ hs hz ha =>
      rw [Vals.ref1 r]
      obtain ⟨its, rv, hl, hz'⟩ := I.list (sf.seq hs)
      have hun := hr.un
      have hdp := depthAll_mm hp.2
      obtain ⟨as, ra⟩ := Dp.readsAll I (e :: es) ys its (vd_all_dp (VdAll.mono sf _ _ ha)) rv
      refine PySem.W.min_list_data hr.hd hl.isList (by rw [List.toList_toArray]; exact ra) hp.1 (by omega) fun i u h' tk bs hi hR hk => ?_
      have hi' : its[i]? = some u := by simpa using hi
      obtain ⟨bs2, r2, hlt, _⟩ := PySem.W.readsAll_at ra i u hi'
      have det := (reads_det (h := s.heap) (h' := h') (fun b o q _ => hk b o q) r2 hR).1
      have hj : i < (e :: es).length := hlt
      obtain ⟨y, hy1, hy2⟩ := ha.get (i := i) (d := (e :: es)[i]) (List.getElem?_eq_getElem hj)
      obtain ⟨u2, hu1, hu2⟩ := Vals.get rv hy1
      rw [hi'] at hu1
      cases hu1
      have ed : (e :: es)[i] = PySem.W.minD e es := by
        rw [det, List.getD_eq_getElem?_getD, List.getElem?_eq_getElem hj]; rfl
      rw [ed] at hy2
      exact ⟨y, H, I.kept hk, hu2, hq y H F (Ext.refl sf) hy2⟩
  · cases hg
theorem cb_maxD {k : Nat} (hr : Room k X.A) : CallR X (.builtin "max") (rCV X bMaxD) := by
  intro pins s σ H xs us Q I r h
  obtain ⟨F, ds, d, sf, hv, hg, hq⟩ := h
  unfold bMaxD at hg
  split at hg
  · rename_i e es
    by_cases hp : mmOk (e :: es)
    case neg => rw [if_neg hp] at hg; cases hg
    rw [if_pos hp] at hg
    cases hg
    obtain ⟨v, rfl, h1⟩ := vd1 hv
    cases h1 with
    | @lst a ys _ hs hz ha =>
      rw [Vals.ref1 r]
      obtain ⟨its, rv, hl, hz'⟩ := I.list (sf.seq hs)
      have hun := hr.un
      have hdp := depthAll_mm hp.2
      obtain ⟨as, ra⟩ := Dp.readsAll I (e :: es) ys its (vd_all_dp (VdAll.mono sf _ _ ha)) rv
      refine PySem.W.max_list_data hr.hd hl.isList (by rw [List.toList_toArray]; exact ra) hp.1 (by omega) fun i u h' tk bs hi hR hk => ?_
      have hi' : its[i]? = some u := by simpa using hi
      obtain ⟨bs2, r2, hlt, _⟩ := PySem.W.readsAll_at ra i u hi'
      have det := (reads_det (h := s.heap) (h' := h') (fun b o q _ => hk b o q) r2 hR).1
      have hj : i < (e :: es).length := hlt
      obtain ⟨y, hy1, hy2⟩ := ha.get (i := i) (d := (e :: es)[i]) (List.getElem?_eq_getElem hj)
      obtain ⟨u2, hu1, hu2⟩ := Vals.get rv hy1
      rw [hi'] at hu1
      cases hu1
      have ed : (e :: es)[i] = PySem.W.maxD e es := by
        rw [det, List.getD_eq_getElem?_getD, List.getElem?_eq_getElem hj]; rfl
      rw [ed] at hy2
      exact ⟨y, H, I.kept hk, hu2, hq y H F (Ext.refl sf) hy2⟩
  · cases hg
end

theorem lt_not_le (x y : Int × Int) : PySem.W.dataLt (pr x) (pr y) = !leP y x := by
  rw [dataLt_pr]
  unfold leP
  rcases Int.lt_trichotomy x.1 y.1 with h | h | h
  · rw [decide_eq_true h, decide_eq_false (show ¬ y.1 < x.1 by omega), decide_eq_false (show ¬ y.1 = x.1 by omega)]; rfl
  · rw [decide_eq_false (show ¬ x.1 < y.1 by omega), decide_eq_true h, decide_eq_false (show ¬ y.1 < x.1 by omega), decide_eq_true h.symm]
    by_cases c : x.2 < y.2
    · rw [decide_eq_true c, decide_eq_false (show ¬ y.2 ≤ x.2 by omega)]; rfl
    · rw [decide_eq_false c, decide_eq_true (show y.2 ≤ x.2 by omega)]; rfl
  · rw [decide_eq_false (show ¬ x.1 < y.1 by omega), decide_eq_false (show ¬ x.1 = y.1 by omega), decide_eq_true h]; rfl
theorem leP_refl (x : Int × Int) : leP x x = true := by
  unfold leP
  rw [decide_eq_true (show x.1 = x.1 from rfl), decide_eq_true (Int.le_refl _)]; simp
theorem leP_iff (x y : Int × Int) : leP x y = true ↔ x.1 < y.1 ∨ (x.1 = y.1 ∧ x.2 ≤ y.2) := by
  unfold leP
  simp
theorem leP_trans {x y z : Int × Int} (h1 : leP x y = true) (h2 : leP y z = true) : leP x z = true := by
  rw [leP_iff] at *
  omega
theorem leP_total (x y : Int × Int) : leP x y = true ∨ leP y x = true := by
  rw [leP_iff, leP_iff]
  omega
theorem minD_pr (p : Int × Int) : ∀ ps : List (Int × Int), ∃ m, m ∈ p :: ps ∧ PySem.W.minD (pr p) (ps.map pr) = pr m ∧ ∀ y ∈ p :: ps, leP m y = true := by
  intro ps
  induction ps generalizing p with
  | nil => exact ⟨p, List.mem_cons_self .., rfl, fun y hy => by
      rw [List.mem_singleton] at hy
      rw [hy]; exact leP_refl p⟩
  | cons q r ih =>
    have e : PySem.W.minD (pr p) ((q :: r).map pr) = PySem.W.minD (if PySem.W.dataLt (pr q) (pr p) then pr q else pr p) (r.map pr) := rfl
    rw [e, lt_not_le]
    by_cases c : leP p q = true
    · rw [c]
      obtain ⟨m, h1, h2, h3⟩ := ih p
      refine ⟨m, ?_, by simpa using h2, fun y hy => ?_⟩
      · rcases List.mem_cons.mp h1 with h | h
        · rw [h]; exact List.mem_cons_self ..
        · exact List.mem_cons_of_mem _ (List.mem_cons_of_mem _ h)
      · rcases List.mem_cons.mp hy with h | h
        · rw [h]; exact h3 p (List.mem_cons_self ..)
        · rcases List.mem_cons.mp h with h | h
          · rw [h]; exact leP_trans (h3 p (List.mem_cons_self ..)) c
          · exact h3 y (List.mem_cons_of_mem _ h)
    · have c' : leP p q = false := by simpa using c
      rw [c']
      obtain ⟨m, h1, h2, h3⟩ := ih q
      refine ⟨m, List.mem_cons_of_mem _ h1, by simpa using h2, fun y hy => ?_⟩
      rcases List.mem_cons.mp hy with h | h
      · rw [h]
        refine leP_trans (h3 q (List.mem_cons_self ..)) ?_
        rcases leP_total p q with t | t
        · exact absurd t c
        · exact t
      · exact h3 y h
theorem min_pr {ps : List (Int × Int)} (h : ps ≠ []) : ∃ m, m ∈ ps ∧ bMinD [.list (ps.map pr)] = some (pr m) ∧ ∀ y ∈ ps, leP m y = true := by
  cases ps with
  | nil => exact absurd rfl h
  | cons p r =>
    obtain ⟨m, h1, h2, h3⟩ := minD_pr p r
    have ok : mmOk (pr p :: r.map pr) := by
      have hm : ∀ d ∈ pr p :: r.map pr, ∃ x, d = pr x := fun d hd => by
        rcases List.mem_cons.mp hd with e | e
        · exact ⟨p, e⟩
        · obtain ⟨x, _, rfl⟩ := List.mem_map.mp e
          exact ⟨x, rfl⟩
      refine ⟨⟨fun d hd d' hd' => ?_, fun d hd => ?_⟩, fun d hd => ?_⟩
      · obtain ⟨x, rfl⟩ := hm d hd
        obtain ⟨y, rfl⟩ := hm d' hd'
        simp [PySem.W.alike, PySem.W.alikeAll]
      · obtain ⟨x, rfl⟩ := hm d hd
        exact fun e => nomatch e
      · obtain ⟨x, rfl⟩ := hm d hd
        simp [PyData.depth, PyData.depthAll]
    refine ⟨m, h1, ?_, h3⟩
    rw [← h2]
    unfold bMinD
    exact if_pos ok
end PV
namespace PV
open PySem PySem.Spec PySem.Calls PyProof.Rows L2
/-! ### is True, is False -/
def pIsB : PyData → PyData → Option PyData
  | .bool a, .bool b => some (.bool (decide (a = b)))
  | _, _ => none
def pIsNotB : PyData → PyData → Option PyData
  | .bool a, .bool b => some (.bool (!decide (a = b)))
  | _, _ => none
section
variable {X : Cx}
theorem opv_isb : OpV X (compareOp .Is) pIsB := by
  intro pins s σ H x y v u Q I rx ry F d e r sf hx hy hg hq
  cases hx with
  | bl a => cases hy with
    | bl b =>
      cases hg
      exact op_isBl pins s σ H _ _ v u Q I rx ry ⟨a, b, rfl, rfl, hq _ _ F (Ext.refl sf) (.bl _)⟩
    | _ => cases hg
  | _ => cases hg
theorem opv_isnotb : OpV X (compareOp .IsNot) pIsNotB := by
  intro pins s σ H x y v u Q I rx ry F d e r sf hx hy hg hq
  cases hx with
  | bl a => cases hy with
    | bl b =>
      cases hg
      exact op_notBl pins s σ H _ _ v u Q I rx ry ⟨a, b, rfl, rfl, hq _ _ F (Ext.refl sf) (.bl _)⟩
    | _ => cases hg
  | _ => cases hg
end
@[simp] theorem d_isB (a b : Bool) : pIsB (.bool a) (.bool b) = some (.bool (decide (a = b))) := nr rfl
@[simp] theorem d_isNB (a b : Bool) : pIsNotB (.bool a) (.bool b) = some (.bool (!decide (a = b))) := nr rfl
end PV
end
section
set_option Elab.async false
set_option linter.all false
set_option maxRecDepth 100000
set_option maxHeartbeats 4000000
/-! VZ: what a meaning gives, in plain Lean with types: rules that a program (tgen.py) puts together. -/
namespace PV
open PySem

/-! ### what is known of the names: some c, just this; none, anything -/
abbrev Pt := List (Option Cel)
inductive Sh : Pt → Evn → Prop
  | nil : Sh [] []
  | any {p : Pt} {ρ : Evn} {o : Option Cel} : Sh p ρ → Sh (none :: p) (o :: ρ)
  | is {p : Pt} {ρ : Evn} {c : Cel} : Sh p ρ → Sh (some c :: p) (some c :: ρ)
def atP : Pt → Nat → Option Cel
  | [], _ => none
  | c :: _, 0 => c
  | _ :: r, n + 1 => atP r n
def stP : Pt → Nat → Option Cel → Pt
  | [], _, _ => []
  | _ :: r, 0, x => x :: r
  | c :: r, n + 1, x => c :: stP r n x
def fzC : Option Cel → Option Cel
  | some (.own ds) => some (.val (.list ds))
  | c => c
def fzP : Nat → Pt → Pt
  | _, [] => []
  | 0, c :: r => fzC c :: r
  | n + 1, c :: r => c :: fzP n r
def wpP (p : Pt) : List Nat → Pt
  | [] => p
  | v :: vs => stP (wpP p vs) v none
theorem Sh.get {p : Pt} {ρ : Evn} (h : Sh p ρ) : ∀ {i : Nat} {c : Cel}, atP p i = some c → ρ[i]? = some (some c) := by
  induction h with
  | nil => intro i c e; cases e
  | any _ ih => intro i c e; cases i with
    | zero => cases e
    | succ n => rw [List.getElem?_cons_succ]; exact ih e
  | is _ ih => intro i c e; cases i with
    | zero => cases e; rfl
    | succ n => rw [List.getElem?_cons_succ]; exact ih e
theorem Sh.st {p : Pt} {ρ : Evn} (h : Sh p ρ) : ∀ {i : Nat} {c : Cel}, Sh (stP p i (some c)) (ρ.set i (some c)) := by
  induction h with
  | nil => intro i c; exact .nil
  | any t ih => intro i c; cases i with
    | zero => exact .is t
    | succ n => exact .any ih
  | is t ih => intro i c; cases i with
    | zero => exact .is t
    | succ n => exact .is ih
theorem Sh.stN {p : Pt} {ρ : Evn} (h : Sh p ρ) : ∀ {i : Nat} {o : Option Cel}, Sh (stP p i none) (ρ.set i o) := by
  induction h with
  | nil => intro i c; exact .nil
  | any t ih => intro i c; cases i with
    | zero => exact .any t
    | succ n => exact .any ih
  | is t ih => intro i c; cases i with
    | zero => exact .any t
    | succ n => exact .is ih
theorem Sh.wp {p : Pt} {ρ : Evn} (h : Sh p ρ) : ∀ vs : List Nat, Sh (wpP p vs) (wipeE ρ vs)
  | [] => h
  | _ :: vs => (Sh.wp h vs).stN
theorem Sh.fz {p : Pt} {ρ : Evn} (h : Sh p ρ) : ∀ {i : Nat}, Sh (fzP i p) (freeze i ρ) := by
  intro i
  rw [fz_eq]
  induction h generalizing i with
  | nil => cases i <;> exact .nil
  | @any p ρ o t ih => cases i with
    | zero =>
      have : ∃ o', fzE (o :: ρ) 0 = o' :: ρ := by rcases o with _ | ⟨_ | _ | _⟩ <;> exact ⟨_, rfl⟩
      obtain ⟨o', e⟩ := this
      rw [e]
      exact .any t
    | succ n => rw [fz_s]; exact .any ih
  | @is p ρ c t ih => cases i with
    | zero => cases c <;> exact .is t
    | succ n => rw [fz_s]; exact .is ih
/-- less is known -/
inductive Sb : Pt → Pt → Prop
  | nil : Sb [] []
  | any {p q : Pt} {c : Option Cel} : Sb p q → Sb (c :: p) (none :: q)
  | is {p q : Pt} {c : Option Cel} : Sb p q → Sb (c :: p) (c :: q)
theorem Sb.sh {p q : Pt} (h : Sb p q) : ∀ {ρ : Evn}, Sh p ρ → Sh q ρ := by
  induction h with
  | nil => intro ρ h; exact h
  | any _ ih => intro ρ h; cases h with
    | any t => exact .any (ih t)
    | is t => exact .any (ih t)
  | is _ ih => intro ρ h; cases h with
    | any t => exact .any (ih t)
    | is t => exact .is (ih t)
def ptE (N : Nat) (ds : List PyData) : Pt := ds.map (fun d => some (.val d)) ++ List.replicate (N - ds.length) none
theorem sh_rep : ∀ n : Nat, Sh (List.replicate n none) (List.replicate n none)
  | 0 => .nil
  | n + 1 => .any (sh_rep n)
theorem sh_start (N : Nat) (ds : List PyData) : Sh (ptE N ds) (startE N ds) := by
  unfold ptE startE
  generalize N - ds.length = k
  induction ds with
  | nil => exact sh_rep k
  | cons d r ih => exact .is ih

/-! ### expressions -/
def TM {α : Type} (p : Pt) (m : Evn → RE α) (a : α) : Prop := ∀ ρ, Sh p ρ → m ρ = .ok a
section
variable {p : Pt} {α β : Type} {f fa fb fc : Evn → RE PyData} {d x y z : PyData} {g : Evn → RE (List PyData)} {ds : List PyData}
theorem t_get {i : Nat} (h : atP p i = some (.val d)) : TM p (mGet i) d := fun ρ hs => by
  unfold mGet
  rw [hs.get h]
theorem t_c : TM p (mC d) d := fun _ _ => rfl
theorem t_2 {o : PyData → PyData → Option PyData} (ha : TM p fa x) (hb : TM p fb y) (h : o x y = some z) : TM p (m2 o fa fb) z := fun ρ hs => by
  rw [e_m2, ha ρ hs, bind_ok, hb ρ hs, bind_ok, h, ofO_some]
theorem t_1 {o : PyData → Option PyData} (ha : TM p fa x) (h : o x = some z) : TM p (m1 o fa) z := fun ρ hs => by
  rw [e_m1, ha ρ hs, bind_ok, h, ofO_some]
theorem t_and {b c : Bool} (ha : TM p fa (.bool b)) (hb : b = true → TM p fb (.bool c)) : TM p (mAnd fa fb) (.bool (b && c)) := fun ρ hs => by
  rw [e_mAnd, ha ρ hs, bind_ok, d_toB, ofO_some, bind_ok]
  cases b with
  | true => rw [if_pos rfl, hb rfl ρ hs, Bool.true_and]
  | false => rw [if_neg (by decide), Bool.false_and]
theorem t_or {b c : Bool} (ha : TM p fa (.bool b)) (hb : b = false → TM p fb (.bool c)) : TM p (mOr fa fb) (.bool (b || c)) := fun ρ hs => by
  rw [e_mOr, ha ρ hs, bind_ok, d_toB, ofO_some, bind_ok]
  cases b with
  | false => rw [if_neg (by decide), hb rfl ρ hs, Bool.false_or]
  | true => rw [if_pos rfl, Bool.true_or]
theorem t_if {e : α → PyData} {t : Evn → RE Bool} {c : Bool} {u v : α} (hc : TM p t c) (ha : c = true → TM p fa (e u)) (hb : c = false → TM p fb (e v)) : TM p (mIf t fa fb) (e (if c = true then u else v)) := fun ρ hs => by
  rw [e_mIf, hc ρ hs, bind_ok]
  cases c with
  | true => rw [if_pos rfl, if_pos rfl, ha rfl ρ hs]
  | false => rw [if_neg (by decide), if_neg (by decide), hb rfl ρ hs]
theorem t_chain {o o' : PyData → PyData → Option PyData} {b c : Bool} (ha : TM p fa x) (hb : TM p fb y) (h : o x y = some (.bool b)) (hc : b = true → TM p fc z) (h' : b = true → o' y z = some (.bool c)) : TM p (mChain o o' fa fb fc) (.bool (b && c)) := fun ρ hs => by
  rw [e_mChain, ha ρ hs, bind_ok, hb ρ hs, bind_ok, h, ofO_some, bind_ok, d_toB, ofO_some, bind_ok]
  cases b with
  | true => rw [if_pos rfl, hc rfl ρ hs, bind_ok, h' rfl, ofO_some, Bool.true_and]
  | false => rw [if_neg (by decide), Bool.false_and]
theorem t_nil : TM p mNil [] := fun _ _ => rfl
theorem t_cons (h : TM p f d) (hs : TM p g ds) : TM p (mCons f g) (d :: ds) := fun ρ sh => by
  rw [e_mCons, h ρ sh, bind_ok, hs ρ sh, bind_ok]
theorem t_seq {k : List PyData → RE PyData} (h : TM p g ds) (hk : k ds = .ok d) : TM p (mSeq k g) d := fun ρ hs => by
  rw [e_mSeq, h ρ hs, bind_ok, hk]
theorem t_cal0 {k : List PyData → RE PyData} (hk : k [] = .ok d) : TM p (fun _ => k []) d := fun ρ hs => hk
theorem t_call {b : List PyData → Option PyData} (h : TM p g ds) (hk : b ds = some d) : TM p (mCall b g) d := fun ρ hs => by
  rw [e_mCall, h ρ hs, bind_ok, hk, ofO_some]
theorem t_no : TM p mNo none := fun _ _ => rfl
theorem t_part {i : Int} (h : TM p f (.int i)) : TM p (mPart f) (some i) := fun ρ hs => by
  rw [e_mPart, h ρ hs, bind_ok, d_toI, ofO_some, bind_ok]
theorem t_cut {l h : Evn → RE (Option Int)} {lo hi : Option Int} (hd : TM p f d) (hl : TM p l lo) (hh : TM p h hi) (hk : pCut d lo hi = some z) : TM p (mCut f l h) z := fun ρ hs => by
  rw [e_mCut, hd ρ hs, bind_ok, hl ρ hs, bind_ok, hh ρ hs, bind_ok, hk, ofO_some]
theorem t_is {T : Ty} {b : Bool} (h : TM p f d) (hb : isTy T d = b) : TM p (mIs T f) (.bool b) := fun ρ hs => by
  rw [e_mIs, h ρ hs, bind_ok, hb]
theorem t_is2 {T U : Ty} {b : Bool} (h : TM p f d) (hb : (isTy T d || isTy U d) = b) : TM p (mIs2 T U f) (.bool b) := fun ρ hs => by
  rw [e_mIs2, h ρ hs, bind_ok, hb]
theorem t_L (h : TM p g ds) : TM p (mL g) (.list ds) := fun ρ hs => by
  rw [e_mL, h ρ hs, bind_ok]
theorem t_dsp (h : TM p g ds) (hl : ds.length ≤ sizeLine) : TM p (mDsp g) ds := fun ρ hs => by
  rw [e_mDsp, h ρ hs, bind_ok, if_pos hl]
theorem t_rep {k : Int} (h : TM p g ds) (hl : ds.length ≤ sizeLine) (hf : TM p f (.int k)) (hr : repOk ds.length k) : TM p (mRep g f) (List.replicate k.toNat ds).flatten := fun ρ hs => by
  rw [e_mRep, t_dsp h hl ρ hs, bind_ok, hf ρ hs, bind_ok, d_rep, if_pos hr]
theorem t_bind {k : PyData → RE (List PyData)} (h : TM p f d) (hk : k d = .ok ds) : TM p (mBind f k) ds := fun ρ hs => by
  rw [e_mBind, h ρ hs, bind_ok, hk]
theorem t_ixO {i : Nat} {es : List PyData} (h : atP p i = some (.own es)) (hf : TM p f y) (hk : pIdx (.list es) y = some z) : TM p (mIxO i f) z := fun ρ hs => by
  unfold mIxO
  rw [hs.get h]
  show ((f ρ).bind fun k => ofO (pIdx (.list es) k)) = _
  rw [hf ρ hs, bind_ok, hk, ofO_some]
theorem t_ixV {i : Nat} (h : atP p i = some (.val x)) (hf : TM p f y) (hk : pIdx x y = some z) : TM p (mIxO i f) z := fun ρ hs => by
  unfold mIxO
  rw [hs.get h]
  show ((f ρ).bind fun k => ofO (pIdx x k)) = _
  rw [hf ρ hs, bind_ok, hk, ofO_some]
theorem t_bor {i : Nat} (h : TM (fzP i p) f d) (hd : scal d = true) : TM p (mBor i f) d := fun ρ hs => by
  rw [e_mBor, h _ hs.fz, bind_ok, if_pos hd]
theorem t_borB {i : Nat} {t : Evn → RE Bool} {b : Bool} (h : TM (fzP i p) t b) : TM p (mBorB i t) b := fun ρ hs => by
  rw [e_mBorB]
  exact h _ hs.fz
theorem t_items (h : TM p f d) (hd : itemsOf d = some ds) : TM p (mItems f) ds := fun ρ hs => by
  rw [e_mItems, h ρ hs, bind_ok, hd, ofO_some]
theorem t_wk {w : List PyData → Option (List PyData)} {es : List PyData} (h : TM p g es) (hd : w es = some ds) : TM p (mWk w g) ds := fun ρ hs => by
  rw [e_mWk, h ρ hs, bind_ok, hd, ofO_some]
theorem t_rev (h : TM p f d) (hd : rev1 d = some ds) : TM p (mRev f) ds := fun ρ hs => by
  rw [e_mRev, h ρ hs, bind_ok, hd, ofO_some]
theorem t_T {b : Bool} (h : TM p f d) (hd : truth d = some b) : TM p (mT f) b := fun ρ hs => by
  rw [e_mT, h ρ hs, bind_ok, hd, ofO_some]
theorem t_B {b : Bool} (h : TM p f (.bool b)) : TM p (mB f) b := fun ρ hs => by
  rw [e_mB, h ρ hs, bind_ok, d_toB, ofO_some]
theorem t_andB {ta tb : Evn → RE Bool} {b c : Bool} (ha : TM p ta b) (hb : b = true → TM p tb c) : TM p (mAndB ta tb) (b && c) := fun ρ hs => by
  rw [e_mAndB, ha ρ hs, bind_ok]
  cases b with
  | true => rw [if_pos rfl, hb rfl ρ hs, Bool.true_and]
  | false => rw [if_neg (by decide), Bool.false_and]
theorem t_orB {ta tb : Evn → RE Bool} {b c : Bool} (ha : TM p ta b) (hb : b = false → TM p tb c) : TM p (mOrB ta tb) (b || c) := fun ρ hs => by
  rw [e_mOrB, ha ρ hs, bind_ok]
  cases b with
  | false => rw [if_neg (by decide), hb rfl ρ hs, Bool.false_or]
  | true => rw [if_pos rfl, Bool.true_or]
theorem t_notB {t : Evn → RE Bool} {b : Bool} (h : TM p t b) : TM p (mNotB t) (!b) := fun ρ hs => by
  rw [e_mNotB, h ρ hs, bind_ok]
theorem t_yes : TM p mYes true := fun _ _ => rfl
theorem t_lrg1 {j : Int} (h : TM p f (.int j)) (hk : lrgOk 0 j) : TM p (mLrg1 f) (rangeL 0 (j - 0).toNat) := fun ρ hs => by
  rw [e_mLrg1, h ρ hs, bind_ok, d_lrg, if_pos hk]
theorem t_lrg2 {i j : Int} (h : TM p fa (.int i)) (h' : TM p fb (.int j)) (hk : lrgOk i j) : TM p (mLrg2 fa fb) (rangeL i (j - i).toNat) := fun ρ hs => by
  rw [e_mLrg2, h ρ hs, bind_ok, h' ρ hs, bind_ok, d_lrg, if_pos hk]
theorem t_cast {m : Evn → RE α} {a b : α} (h : TM p m a) (e : a = b) : TM p m b := e ▸ h
end

/-! ### targets -/
def TG (p : Pt) (m : PyData → Evn → Option Evn) (d : PyData) (q : Pt) : Prop := ∀ ρ, Sh p ρ → ∃ ρ', m d ρ = some ρ' ∧ Sh q ρ'
def TGs (p : Pt) (m : List PyData → Evn → Option Evn) (ds : List PyData) (q : Pt) : Prop := ∀ ρ, Sh p ρ → ∃ ρ', m ds ρ = some ρ' ∧ Sh q ρ'
section
variable {p q q' : Pt} {d : PyData} {ds : List PyData} {m : PyData → Evn → Option Evn} {ms : List PyData → Evn → Option Evn}
theorem tg_n {i : Nat} : TG p (gN i) d (stP p i (some (.val d))) := fun ρ hs => ⟨_, rfl, hs.st⟩
theorem tg_t {n : Nat} (h : TGs p ms ds q) (hl : ds.length = n) : TG p (gT n ms) (.tuple ds) q := fun ρ hs => by
  obtain ⟨ρ', h1, h2⟩ := h ρ hs
  exact ⟨ρ', by rw [e_gTt, if_pos hl, h1], h2⟩
theorem tg_l {n : Nat} (h : TGs p ms ds q) (hl : ds.length = n) : TG p (gT n ms) (.list ds) q := fun ρ hs => by
  obtain ⟨ρ', h1, h2⟩ := h ρ hs
  exact ⟨ρ', by rw [e_gTl, if_pos hl, h1], h2⟩
theorem tg_e : TGs p gE [] p := fun ρ hs => ⟨ρ, rfl, hs⟩
theorem tg_c (h : TG p m d q) (h' : TGs q ms ds q') : TGs p (gC m ms) (d :: ds) q' := fun ρ hs => by
  obtain ⟨ρ1, h1, h2⟩ := h ρ hs
  obtain ⟨ρ2, h3, h4⟩ := h' ρ1 h2
  exact ⟨ρ2, by rw [e_gC, h1, Option.bind_some, h3], h4⟩
end

/-! ### comprehensions -/
section
variable {p : Pt} {α β : Type} {w : Evn → RE (List PyData)} {g : PyData → Evn → Option Evn} {tt : Evn → RE Bool} {el : Evn → RE PyData} {vs : List Nat} {e : α → PyData} {e' : β → PyData} {xs : List α} {q : α → Pt}
theorem t_lc0 {f : α → β} (hw : TM p w (xs.map e)) (hl : xs.length ≤ sizeLine) (hg : ∀ x, TG (wpP p vs) g (e x) (q x)) (he : ∀ x ∈ xs, TM (q x) el (e' (f x))) : TM p (mLc w g mYes el vs) ((xs.map f).map e') := fun ρ hs => by
  rw [e_mLc, hw ρ hs, bind_ok, if_pos (by rw [List.length_map]; exact hl)]
  rw [lcM_all (dec := e) (fun x => e' (f x)) (fun x hx => by
    obtain ⟨ρ', h1, h2⟩ := hg x _ (hs.wp vs)
    exact ⟨ρ', h1, he x hx _ h2⟩), List.map_map]
  rfl
theorem t_lc {t : α → Bool} {f : α → β} (hw : TM p w (xs.map e)) (hl : xs.length ≤ sizeLine) (hg : ∀ x, TG (wpP p vs) g (e x) (q x)) (ht : ∀ x ∈ xs, TM (q x) tt (t x)) (he : ∀ x ∈ xs, t x = true → TM (q x) el (e' (f x))) : TM p (mLc w g tt el vs) (((xs.filter t).map f).map e') := fun ρ hs => by
  rw [e_mLc, hw ρ hs, bind_ok, if_pos (by rw [List.length_map]; exact hl)]
  rw [lcM_map (dec := e) t (fun x => e' (f x)) (fun x hx => by
    obtain ⟨ρ', h1, h2⟩ := hg x _ (hs.wp vs)
    exact ⟨ρ', h1, ht x hx _ h2, fun hp => he x hx hp _ h2⟩), List.map_map]
  rfl
end

/-! ### types and their data -/
abbrev idD : PyData → PyData := fun d => d
abbrev eN : Unit → PyData := fun _ => .none
abbrev encL {α : Type} (e : α → PyData) (xs : List α) : PyData := .list (xs.map e)
abbrev encU {α : Type} (e : α → PyData) (xs : List α) : PyData := .tuple (xs.map e)
abbrev encO {α : Type} (e : α → PyData) (x : Option α) : PyData := match x with
  | none => .none
  | some a => e a
abbrev enc2 {α β : Type} (a : α → PyData) (b : β → PyData) (x : α × β) : PyData := .tuple [a x.1, b x.2]
abbrev enc3 {α β γ : Type} (a : α → PyData) (b : β → PyData) (c : γ → PyData) (x : α × β × γ) : PyData := .tuple [a x.1, b x.2.1, c x.2.2]
abbrev enc4 {α β γ δ : Type} (a : α → PyData) (b : β → PyData) (c : γ → PyData) (d : δ → PyData) (x : α × β × γ × δ) : PyData := .tuple [a x.1, b x.2.1, c x.2.2.1, d x.2.2.2]
abbrev enc5 {α β γ δ ε : Type} (a : α → PyData) (b : β → PyData) (c : γ → PyData) (d : δ → PyData) (f : ε → PyData) (x : α × β × γ × δ × ε) : PyData := .tuple [a x.1, b x.2.1, c x.2.2.1, d x.2.2.2.1, f x.2.2.2.2]
abbrev enc6 {α β γ δ ε ζ : Type} (a : α → PyData) (b : β → PyData) (c : γ → PyData) (d : δ → PyData) (f : ε → PyData) (g : ζ → PyData) (x : α × β × γ × δ × ε × ζ) : PyData := .tuple [a x.1, b x.2.1, c x.2.2.1, d x.2.2.2.1, f x.2.2.2.2.1, g x.2.2.2.2.2]
theorem t_some {p : Pt} {α : Type} {e : α → PyData} {f : Evn → RE PyData} {a : α} (h : TM p f (e a)) : TM p f (encO e (some a)) := h
theorem t_unO {p : Pt} {α : Type} {e : α → PyData} {f : Evn → RE PyData} {x : Option α} {d : α} (h : TM p f (encO e x)) (hx : x.isSome = true) : TM p f (e (x.getD d)) := by
  cases x with
  | none => cases hx
  | some a => exact h

/-! likeness -/
structure EqE {α : Type} [DecidableEq α] (n : Nat) (e : α → PyData) : Prop where
  ev : ∀ a b, PyData.eqv (e a) (e b) = decide (a = b)
  dp : ∀ a, (e a).depth ≤ n
theorem eqe_I : EqE 0 PyData.int := ⟨fun a b => by simp only [PyData.eqv]; exact PySem.W.beq_decide a b, fun _ => Nat.le_refl _⟩
theorem eqe_B : EqE 0 PyData.bool := ⟨fun a b => by simp only [PyData.eqv]; exact PySem.W.beq_decide a b, fun _ => Nat.le_refl _⟩
theorem eqe_S : EqE 0 PyData.str := ⟨fun a b => by simp only [PyData.eqv]; exact PySem.W.beq_decide a b, fun _ => Nat.le_refl _⟩
theorem eqe_N : EqE 0 eN := ⟨fun a b => by simp only [PyData.eqv]; rfl, fun _ => Nat.le_refl _⟩
section
variable {α β γ δ ε : Type} [DecidableEq α] [DecidableEq β] [DecidableEq γ] [DecidableEq δ] [DecidableEq ε] {n m k l j : Nat} {e : α → PyData} {f : β → PyData} {g : γ → PyData} {h : δ → PyData} {o : ε → PyData}
theorem eqvAll_map (he : EqE n e) : ∀ xs ys : List α, PyData.eqvAll (xs.map e) (ys.map e) = decide (xs = ys)
  | [], [] => by simp only [List.map_nil, PyData.eqvAll]; rfl
  | [], y :: ys => by simp only [List.map_nil, List.map_cons, PyData.eqvAll]; simp
  | x :: xs, [] => by simp only [List.map_nil, List.map_cons, PyData.eqvAll]; simp
  | x :: xs, y :: ys => by
    simp only [List.map_cons, PyData.eqvAll]
    rw [he.ev, eqvAll_map he xs ys]
    by_cases h1 : x = y <;> by_cases h2 : xs = ys <;> simp [h1, h2]
theorem eqe_L (he : EqE n e) : EqE (n + 1) (encL e) := ⟨fun a b => by simp only [PyData.eqv]; exact eqvAll_map he a b, fun a => by
  simp only [PyData.depth]
  refine Nat.succ_le_succ (depthAll_le fun x hx => ?_)
  obtain ⟨y, _, rfl⟩ := List.mem_map.mp hx
  exact he.dp y⟩
theorem eqe_U (he : EqE n e) : EqE (n + 1) (encU e) := ⟨fun a b => by simp only [PyData.eqv]; exact eqvAll_map he a b, fun a => by
  simp only [PyData.depth]
  refine Nat.succ_le_succ (depthAll_le fun x hx => ?_)
  obtain ⟨y, _, rfl⟩ := List.mem_map.mp hx
  exact he.dp y⟩
theorem eqe_2 (he : EqE n e) (hf : EqE m f) : EqE (max n m + 1) (enc2 e f) := ⟨fun a b => by
  simp only [PyData.eqv, PyData.eqvAll, he.ev, hf.ev]
  obtain ⟨a1, a2⟩ := a
  obtain ⟨b1, b2⟩ := b
  by_cases h1 : a1 = b1 <;> by_cases h2 : a2 = b2 <;> simp [h1, h2], fun a => by
  simp only [PyData.depth, PyData.depthAll]
  have h1 := he.dp a.1
  have h2 := hf.dp a.2
  omega⟩
theorem eqe_3 (he : EqE n e) (hf : EqE m f) (hg : EqE k g) : EqE (max n (max m k) + 1) (enc3 e f g) := ⟨fun a b => by
  simp only [PyData.eqv, PyData.eqvAll, he.ev, hf.ev, hg.ev]
  obtain ⟨a1, a2, a3⟩ := a
  obtain ⟨b1, b2, b3⟩ := b
  by_cases h1 : a1 = b1 <;> by_cases h2 : a2 = b2 <;> by_cases h3 : a3 = b3 <;> simp [h1, h2, h3], fun a => by
  simp only [PyData.depth, PyData.depthAll]
  have h1 := he.dp a.1
  have h2 := hf.dp a.2.1
  have h3 := hg.dp a.2.2
  omega⟩
theorem eqe_4 (he : EqE n e) (hf : EqE m f) (hg : EqE k g) (hh : EqE l h) : EqE (max n (max m (max k l)) + 1) (enc4 e f g h) := ⟨fun a b => by
  simp only [PyData.eqv, PyData.eqvAll, he.ev, hf.ev, hg.ev, hh.ev]
  obtain ⟨a1, a2, a3, a4⟩ := a
  obtain ⟨b1, b2, b3, b4⟩ := b
  by_cases h1 : a1 = b1 <;> by_cases h2 : a2 = b2 <;> by_cases h3 : a3 = b3 <;> by_cases h4 : a4 = b4 <;> simp [h1, h2, h3, h4], fun a => by
  simp only [PyData.depth, PyData.depthAll]
  have h1 := he.dp a.1
  have h2 := hf.dp a.2.1
  have h3 := hg.dp a.2.2.1
  have h4 := hh.dp a.2.2.2
  omega⟩
/-- no datum of the type is None -/
def NnE (e : α → PyData) : Prop := ∀ a, isNone (e a) = false
theorem nn_I : NnE PyData.int := fun _ => rfl
theorem nn_B : NnE PyData.bool := fun _ => rfl
theorem nn_S : NnE PyData.str := fun _ => rfl
theorem eqv_none {d : PyData} (h : isNone d = false) : PyData.eqv d .none = false ∧ PyData.eqv .none d = false := by
  cases d with
  | none => cases h
  | _ => exact ⟨by simp only [PyData.eqv], by simp only [PyData.eqv]⟩
theorem eqe_O (he : EqE n e) (hn : ∀ a, isNone (e a) = false) : EqE n (encO e) := ⟨fun a b => by
  cases a with
  | none => cases b with
    | none => simp only [PyData.eqv]; rfl
    | some b => show PyData.eqv .none (e b) = _; rw [(eqv_none (hn b)).2]; simp
  | some a => cases b with
    | none => show PyData.eqv (e a) .none = _; rw [(eqv_none (hn a)).1]; simp
    | some b => show PyData.eqv (e a) (e b) = _; rw [he.ev]; simp, fun a => by
  cases a with
  | none => exact Nat.zero_le _
  | some a => exact he.dp a⟩
theorem f_eq {a b : α} (he : EqE n e) (hn : n ≤ 60 := by decide) : pEq (e a) (e b) = some (.bool (decide (a = b))) := by
  unfold pEq
  rw [if_pos (show eqOk _ _ from Or.inl (Nat.le_trans (he.dp a) (by omega))), he.ev]
theorem f_ne {a b : α} (he : EqE n e) (hn : n ≤ 60 := by decide) : pNe (e a) (e b) = some (.bool (!decide (a = b))) := by
  unfold pNe
  rw [if_pos (show eqOk _ _ from Or.inl (Nat.le_trans (he.dp a) (by omega))), he.ev]
theorem inD_map (he : EqE n e) (a : α) (xs : List α) : inD (e a) (xs.map e) = decide (a ∈ xs) := by
  unfold inD
  induction xs with
  | nil => simp
  | cons x r ih =>
    rw [List.map_cons, List.any_cons, ih, he.ev]
    by_cases h1 : x = a
    · subst h1; simp
    · have h2 : ¬ a = x := fun q => h1 q.symm
      simp [h1, h2]
theorem f_in {a : α} {xs : List α} (he : EqE n e) (hn : n ≤ 60 := by decide) : pIn (e a) (encL e xs) = some (.bool (decide (a ∈ xs))) := by
  have h : inOk (e a) (xs.map e) := Or.inl (Nat.le_trans (he.dp a) hn)
  have q : pIn (e a) (.list (xs.map e)) = if inOk (e a) (xs.map e) then some (.bool (inD (e a) (xs.map e))) else none := by
    cases e a <;> rfl
  rw [q, if_pos h, inD_map he]
theorem f_notin {a : α} {xs : List α} (he : EqE n e) (hn : n ≤ 60 := by decide) : pNotIn (e a) (encL e xs) = some (.bool (!decide (a ∈ xs))) := by
  have h : inOk (e a) (xs.map e) := Or.inl (Nat.le_trans (he.dp a) hn)
  have q : pNotIn (e a) (.list (xs.map e)) = if inOk (e a) (xs.map e) then some (.bool (!inD (e a) (xs.map e))) else none := by
    cases e a <;> rfl
  rw [q, if_pos h, inD_map he]
end

/-! ### operators and built-ins, by type -/
/-- a list's place -/
def ixOk (n : Nat) (i : Int) : Prop := 0 ≤ i ∧ i < n
instance (n : Nat) (i : Int) : Decidable (ixOk n i) := by unfold ixOk; exact inferInstance
def dvOk (j : Int) : Prop := 0 < j ∧ divOk j
instance (n : Int) : Decidable (dvOk n) := by unfold dvOk; exact inferInstance
theorem dvOk_s {j : Int} (h1 : 0 < j) (h2 : j < 2 ^ 64) : dvOk j := ⟨h1, divOk_s h1 h2⟩
section
variable {α β : Type} {e : α → PyData} {f : β → PyData} {xs ys : List α} {a b : Int}
theorem f_mul (h : mulOk a b) : pMul (.int a) (.int b) = some (.int (a * b)) := if_pos h
theorem f_div (h : dvOk b) : pDiv (.int a) (.int b) = some (.int (a / b)) := by rw [d_div, if_pos h.2, fdiv_pos h.1]
theorem f_mod (h : 0 < b) : pMod (.int a) (.int b) = some (.int (a % b)) := by rw [d_mod, if_pos (by omega), fmod_pos h]
theorem f_pow {k : Nat} (h : powOk a b) (hk : b.toNat = k) : pPow (.int a) (.int b) = some (.int (a ^ k)) := by rw [d_pow, if_pos h, hk]
theorem f_addL (h : xs.length + ys.length ≤ sizeLine) : pAdd (encL e xs) (encL e ys) = some (encL e (xs ++ ys)) := by
  rw [d_addl, List.length_map, List.length_map, if_pos h, ← List.map_append]
theorem f_idxL {i : Int} {d : α} (h : ixOk xs.length i) : pIdx (encL e xs) (.int i) = some (e (xs.getD i.toNat d)) := by
  obtain ⟨h0, h1⟩ := h
  refine atI_ok h0 ?_
  rw [List.getElem?_map, List.getElem?_eq_getElem (by omega), Option.map_some, List.getD_eq_getElem?_getD, List.getElem?_eq_getElem (by omega), Option.getD_some]
theorem f_last {d : α} (h : xs ≠ []) : pIdx (encL e xs) (.int (-1)) = some (e (xs.getLastD d)) := by
  have hl : 0 < xs.length := List.length_pos_iff.mpr h
  rw [d_idxL]
  unfold L2.atI L2.ixN
  rw [if_neg (by decide), if_pos (by rw [List.length_map]; omega), List.length_map, Option.bind_some, List.getElem?_map]
  have e1 : ((-1 : Int) + (xs.length : Int)).toNat = xs.length - 1 := by omega
  rw [e1, List.getElem?_eq_getElem (by omega), Option.map_some]
  rw [List.getLastD_eq_getLast?, List.getLast?_eq_getElem?, List.getElem?_eq_getElem (by omega), Option.getD_some]
theorem f_lenL : bLen [encL e xs] = some (.int xs.length) := by rw [d_lenL, List.length_map]
theorem f_sum {ns : List Int} : bSum [encL PyData.int ns] = some (.int ns.sum) := d_sumI ns
theorem f_any {ns : List Bool} : bAny [encL PyData.bool ns] = some (.bool (ns.any id)) := d_anyB ns
theorem f_all {ns : List Bool} : bAll [encL PyData.bool ns] = some (.bool (ns.all id)) := d_allB ns
def maxL (ns : List Int) : Int := (lmax ns).getD 0
def minL (ns : List Int) : Int := (lmin ns).getD 0
theorem f_maxL {ns : List Int} (h : ns ≠ []) : bMax [encL PyData.int ns] = some (.int (maxL ns)) := by
  rw [d_maxL]; obtain ⟨m, h1, _⟩ := lmax_some h; unfold maxL; rw [h1]; rfl
theorem f_minL {ns : List Int} (h : ns ≠ []) : bMin [encL PyData.int ns] = some (.int (minL ns)) := by
  rw [d_minL]; obtain ⟨m, h1, _⟩ := lmin_some h; unfold minL; rw [h1]; rfl
theorem maxL_ok {ns : List Int} (h : ns ≠ []) : maxL ns ∈ ns ∧ ∀ y ∈ ns, y ≤ maxL ns := by
  obtain ⟨m, h1, h2⟩ := lmax_some h; unfold maxL; rw [h1]; exact h2
theorem minL_ok {ns : List Int} (h : ns ≠ []) : minL ns ∈ ns ∧ ∀ y ∈ ns, minL ns ≤ y := by
  obtain ⟨m, h1, h2⟩ := lmin_some h; unfold minL; rw [h1]; exact h2
theorem f_max2 : bMax [.int a, .int b] = some (.int (max a b)) := by
  rw [d_max2]; congr 2; split <;> omega
theorem f_min2 : bMin [.int a, .int b] = some (.int (min a b)) := by
  rw [d_min2]; congr 2; split <;> omega
theorem f_sortI {ns : List Int} : bSorted [encL PyData.int ns] = some (encL PyData.int (ns.mergeSort leI)) := sort_li ns
theorem f_sortP {ns : List (Int × Int)} : bSorted [encL (enc2 PyData.int PyData.int) ns] = some (encL (enc2 PyData.int PyData.int) (ns.mergeSort leP)) := sort_pr ns
theorem f_abs : bAbs [.int a] = some (.int (a.natAbs : Int)) := by
  rw [d_abs]; congr 2; split <;> omega
theorem f_cut2 (h0 : 0 ≤ a) (h1 : 0 ≤ b) : pCut (encL e xs) (some a) (some b) = some (encL e ((xs.drop a.toNat).take (b.toNat - a.toNat))) := by
  rw [d_cutL, cut_nn _ h0 h1, ← List.map_drop, ← List.map_take]
theorem f_cut1 (h0 : 0 ≤ a) : pCut (encL e xs) (some a) none = some (encL e (xs.drop a.toNat)) := by
  rw [d_cutL, cut_nx _ h0, ← List.map_drop]
theorem f_cut0 (h1 : 0 ≤ b) : pCut (encL e xs) none (some b) = some (encL e (xs.take b.toNat)) := by
  rw [d_cutL, cut_xn _ h1, ← List.map_take]
theorem f_cutN : pCut (encL e xs) none none = some (encL e xs) := by
  rw [d_cutL, cut_xx]
theorem f_truL : truth (encL e xs) = some (!xs.isEmpty) := by
  cases xs <;> rfl
theorem f_isN {x : Option α} (hn : ∀ a, isNone (e a) = false) : pIsN (encO e x) .none = some (.bool x.isNone) := by
  rw [d_isN]
  cases x with
  | none => rfl
  | some a => show some (PyData.bool (isNone (e a))) = _; rw [hn a]; rfl
theorem f_isNN {x : Option α} (hn : ∀ a, isNone (e a) = false) : pIsNotN (encO e x) .none = some (.bool x.isSome) := by
  rw [d_isNN]
  cases x with
  | none => rfl
  | some a => show some (PyData.bool (!isNone (e a))) = _; rw [hn a]; rfl
theorem f_isV {x : α} (hn : ∀ a, isNone (e a) = false) : pIsN (e x) .none = some (.bool false) := by rw [d_isN, hn x]
theorem f_isNV {x : α} (hn : ∀ a, isNone (e a) = false) : pIsNotN (e x) .none = some (.bool true) := by rw [d_isNN, hn x]; rfl
def rngI (lo hi : Int) : List Int := (List.range (hi - lo).toNat).map fun (k : Nat) => lo + (k : Int)
theorem rngL_eq (lo hi : Int) : rangeL lo (hi - lo).toNat = (rngI lo hi).map PyData.int := by
  unfold rangeL rngI; rw [List.map_map]; rfl
theorem f_rng1 (h : r62 b) : rng1 [.int b] = some ((rngI 0 b).map PyData.int) := by
  rw [d_rng1, if_pos h, ← rngL_eq, Int.sub_zero]
theorem f_rng2 (h : r62 a) (h' : r62 b) : rng2 [.int a, .int b] = some ((rngI a b).map PyData.int) := by
  rw [d_rng2, if_pos ⟨h, h'⟩, rngL_eq]
theorem t_lrg1I {p : Pt} {g : Evn → RE PyData} {j : Int} (h : TM p g (.int j)) (hk : lrgOk 0 j) : TM p (mLrg1 g) ((rngI 0 j).map PyData.int) := by
  rw [← rngL_eq]; exact t_lrg1 h hk
theorem t_lrg2I {p : Pt} {g g' : Evn → RE PyData} {i j : Int} (h : TM p g (.int i)) (h' : TM p g' (.int j)) (hk : lrgOk i j) : TM p (mLrg2 g g') ((rngI i j).map PyData.int) := by
  rw [← rngL_eq]; exact t_lrg2 h h' hk
theorem rngI_len (lo hi : Int) : (rngI lo hi).length = (hi - lo).toNat := by unfold rngI; rw [List.length_map, List.length_range]
theorem rngI_mem {lo hi x : Int} : x ∈ rngI lo hi ↔ lo ≤ x ∧ x < hi := by
  unfold rngI
  rw [List.mem_map]
  constructor
  · rintro ⟨k, hk, rfl⟩
    have := List.mem_range.mp hk
    omega
  · intro h
    exact ⟨(x - lo).toNat, List.mem_range.mpr (by omega), by omega⟩
theorem rngI_get {lo hi : Int} {i : Nat} (h : i < (hi - lo).toNat) : (rngI lo hi)[i]? = some (lo + i) := by
  unfold rngI
  rw [List.getElem?_map, List.getElem?_range h]; rfl
theorem rngI_nil {lo hi : Int} (h : hi ≤ lo) : rngI lo hi = [] := by
  unfold rngI
  have : (hi - lo).toNat = 0 := by omega
  rw [this]; rfl
theorem rngI_snoc {lo hi : Int} (h : lo ≤ hi) : rngI lo (hi + 1) = rngI lo hi ++ [hi] := by
  unfold rngI
  have : (hi + 1 - lo).toNat = (hi - lo).toNat + 1 := by omega
  rw [this, List.range_succ, List.map_append]
  congr 1
  show [lo + (((hi - lo).toNat : Nat) : Int)] = [hi]
  congr 1
  omega
theorem rngI_cons {lo hi : Int} (h : lo < hi) : rngI lo hi = lo :: rngI (lo + 1) hi := by
  unfold rngI
  have : (hi - lo).toNat = (hi - (lo + 1)).toNat + 1 := by omega
  rw [this, List.range_succ_eq_map, List.map_cons, List.map_map]
  congr 1
  · show lo + ((0 : Nat) : Int) = lo
    omega
  · apply List.map_congr_left
    intro k _
    show lo + ((k + 1 : Nat) : Int) = lo + 1 + k
    omega
def enumI {α : Type} : Int → List α → List (Int × α)
  | _, [] => []
  | k, x :: r => (k, x) :: enumI (k + 1) r
theorem enumL_map : ∀ (xs : List α) (k : Nat), enumL k (xs.map e) = (enumI (k : Int) xs).map (enc2 PyData.int e)
  | [], _ => rfl
  | x :: r, k => by
    rw [List.map_cons, enumL, enumL_map r (k + 1)]
    rfl
theorem f_enum : enum1 [encL e xs] = some ((enumI 0 xs).map (enc2 PyData.int e)) := by
  rw [d_enum1, enumL_map]; rfl
theorem zipL_map : ∀ (xs : List α) (ys : List β), zipL (xs.map e) (ys.map f) = (xs.zip ys).map (enc2 e f)
  | [], _ => by simp [zipL]
  | _ :: _, [] => by simp [zipL]
  | x :: r, y :: s => by
    rw [List.map_cons, List.map_cons, zipL, zipL_map r s]
    rfl
theorem f_zip {ys : List β} : zip2 [encL e xs, encL f ys] = some ((xs.zip ys).map (enc2 e f)) := by
  rw [d_zip2, zipL_map]
theorem f_revW : rev1 (encL e xs) = some (xs.reverse.map e) := by
  rw [d_rev1L, ← List.map_reverse]
theorem f_revL : pRevL (encL e xs) = .ok (xs.reverse.map e) := by
  rw [d_revL, ← List.map_reverse]
theorem f_repL {k : Int} (x : α) : (List.replicate k.toNat [e x]).flatten = (List.replicate k.toNat x).map e := by
  induction k.toNat with
  | zero => rfl
  | succ n ih => rw [List.replicate_succ, List.flatten_cons, ih, List.replicate_succ]; rfl
end
theorem ln_ok {n : Nat} (h : n ≤ 1000) : n ≤ sizeLine := by rw [line_eq]; omega

/-! ### statements -/
def TS (p : Pt) (m : Evn → RS) (Q : RS → Prop) : Prop := ∀ ρ, Sh p ρ → Q (m ρ)
/-- the outcome of a loop's body: on, out of the loop, out of the def -/
inductive Stp (σ τ : Type) where
  | nx (s : σ)
  | bk (s : σ)
  | rt (v : τ)
/-- the outcome of a loop -/
inductive Lp (σ τ : Type) where
  | nx (s : σ)
  | rt (v : τ)
def Lp.el {σ τ V : Type} (r : Lp σ τ) (f : τ → V) (g : σ → V) : V := match r with
  | .nx s => g s
  | .rt v => f v
/-- of a def's body -/
def QF {τ : Type} (e : τ → PyData) (v : τ) (o : RS) : Prop := bodyOut o = .ok (e v)
/-- of a loop's body -/
def QL {σ τ : Type} (E : σ → Pt) (e : τ → PyData) (r : Stp σ τ) (o : RS) : Prop := ∃ fl ρ', o = .ok (fl, ρ') ∧ match r with
  | .nx s => (fl = .nx ∨ fl = .ct) ∧ Sh (E s) ρ'
  | .bk s => fl = .bk ∧ Sh (E s) ρ'
  | .rt v => fl = .rt (e v)
/-- of a part that goes on -/
def QJ {σ : Type} (E : σ → Pt) (s : σ) (o : RS) : Prop := ∃ ρ', o = .ok (.nx, ρ') ∧ Sh (E s) ρ'
section
variable {p q : Pt} {σ τ α V : Type} {Q : RS → Prop} {QQ : V → RS → Prop} {m a b c : Evn → RS} {f fa fb : Evn → RE PyData} {d x y : PyData} {ds : List PyData} {E : σ → Pt} {eτ : τ → PyData} {e : α → PyData} {i : Nat} {xs : List α}
theorem then_nx (m : Evn → RS) (ρ : Evn) : sThen m sNx ρ = m ρ := by
  rw [e_sThen]
  rcases m ρ with ⟨fl, ρ'⟩ | _ | _
  · cases fl <;> rfl
  · rfl
  · rfl
theorem then_as (a b c : Evn → RS) (ρ : Evn) : sThen (sThen a b) c ρ = sThen a (sThen b c) ρ := by
  simp only [e_sThen]
  rcases a ρ with ⟨fl, ρ'⟩ | _ | _
  · cases fl <;> rfl
  · rfl
  · rfl
theorem ts_end (h : TS p (sThen m sNx) Q) : TS p m Q := fun ρ hs => by
  have := h ρ hs
  rwa [then_nx] at this
theorem ts_as (h : TS p (sThen a (sThen b c)) Q) : TS p (sThen (sThen a b) c) Q := fun ρ hs => by
  rw [then_as]; exact h ρ hs
theorem ts_fz (h : TS (fzP i p) (sThen m c) Q) : TS p (sThen (fun ρ => m (freeze i ρ)) c) Q := fun ρ hs => h _ hs.fz
theorem ts_nx (h : TS p c Q) : TS p (sThen sNx c) Q := fun ρ hs => h ρ hs
theorem ts_sub (h : Sb p q) (hm : TS q m Q) : TS p m Q := fun ρ hs => hm ρ (h.sh hs)
theorem ts_set (h : TM p f d) (hm : TS (stP p i (some (.val d))) c Q) : TS p (sThen (sSet i f) c) Q := fun ρ hs => by
  have e : sThen (sSet i f) c ρ = c (ρ.set i (some (.val d))) := by
    rw [e_sThen]; unfold sSet; rw [h ρ hs, at_ok, bind_ok, bind_ok]
  rw [e]
  exact hm _ hs.st
theorem ts_setL {g : Evn → RE (List PyData)} (h : TM p g ds) (hm : TS (stP p i (some (.val (.list ds)))) c Q) : TS p (sThen (sSetL i g) c) Q := fun ρ hs => by
  have e : sThen (sSetL i g) c ρ = c (ρ.set i (some (.val (.list ds)))) := by
    rw [e_sThen]; unfold sSetL; rw [h ρ hs, at_ok, bind_ok, bind_ok]
  rw [e]
  exact hm _ hs.st
theorem ts_setO {g : Evn → RE (List PyData)} (h : TM p g ds) (hm : TS (stP p i (some (.own ds))) c Q) : TS p (sThen (sSetO i g) c) Q := fun ρ hs => by
  have e : sThen (sSetO i g) c ρ = c (ρ.set i (some (.own ds))) := by
    rw [e_sThen]; unfold sSetO; rw [h ρ hs, at_ok, bind_ok, bind_ok]
  rw [e]
  exact hm _ hs.st
theorem ts_drop (h : TM p f d) (hm : TS p c Q) : TS p (sThen (sDrop f) c) Q := fun ρ hs => by
  have e : sThen (sDrop f) c ρ = c ρ := by
    rw [e_sThen]; unfold sDrop; rw [h ρ hs, at_ok, bind_ok, bind_ok]
  rw [e]
  exact hm _ hs
theorem own_at {ρ : Evn} (hs : Sh p ρ) (h : atP p i = some (.own ds)) : ownAt i ρ = some ds := by
  unfold ownAt; rw [hs.get h]
theorem ts_app {x : α} (h0 : atP p i = some (.own (xs.map e))) (h : TM p f (e x)) (hl : xs.length < sizeLine) (hm : TS (stP p i (some (.own ((xs ++ [x]).map e)))) c Q) : TS p (sThen (sApp i f) c) Q := fun ρ hs => by
  have e : sThen (sApp i f) c ρ = c (ρ.set i (some (.own ((xs ++ [x]).map e)))) := by
    rw [e_sThen]; unfold sApp; rw [own_at hs h0]
    show ((((f ρ).at ρ).bind fun d => if (xs.map e).length < sizeLine then (.ok (.nx, ρ.set i (some (.own (xs.map e ++ [d])))) : RS) else .bad).bind _) = _
    rw [h ρ hs, at_ok, bind_ok, if_pos (by rw [List.length_map]; exact hl), bind_ok, List.map_append]; rfl
  rw [e]
  exact hm _ hs.st
theorem ts_setIx {fk fe : Evn → RE PyData} {j : Int} {x : α} (h0 : atP p i = some (.own (xs.map e))) (hk : TM p fk (.int j)) (h : TM p fe (e x)) (hl : ixOk xs.length j) (hm : TS (stP p i (some (.own ((xs.set j.toNat x).map e)))) c Q) : TS p (sThen (sSetIx i fk fe) c) Q := fun ρ hs => by
  have q : sThen (sSetIx i fk fe) c ρ = c (ρ.set i (some (.own ((xs.set j.toNat x).map e)))) := by
    rw [e_sThen, e_sSetIx, ← ownAt_gtO, own_at hs h0, oS_some, bind_ok, h ρ hs, at_ok, bind_ok, hk ρ hs, at_ok, bind_ok, d_setD, List.length_map, ixN_ok hl.1 hl.2, Option.map_some, oS_some, bind_ok, bind_ok, ← set_stE, List.map_set]
  rw [q]
  exact hm _ hs.st
theorem ts_augIx {fk fe : Evn → RE PyData} {o : Int → Int → Int} {j y : Int} {xs : List Int} (h0 : atP p i = some (.own (xs.map PyData.int))) (hk : TM p fk (.int j)) (h : TM p fe (.int y)) (hl : ixOk xs.length j) (hm : TS (stP p i (some (.own ((xs.set j.toNat (o (xs.getD j.toNat 0) y)).map PyData.int)))) c Q) : TS p (sThen (sAugIx i fk o fe) c) Q := fun ρ hs => by
  have q : sThen (sAugIx i fk o fe) c ρ = c (ρ.set i (some (.own ((xs.set j.toNat (o (xs.getD j.toNat 0) y)).map PyData.int)))) := by
    rw [e_sThen, e_sAugIx, ← ownAt_gtO, own_at hs h0, oS_some, bind_ok, hk ρ hs, at_ok, bind_ok, f_idxL (d := 0) hl, oS_some, bind_ok, h ρ hs, at_ok, bind_ok, d_iop, Option.bind_some, d_setD, List.length_map, ixN_ok hl.1 hl.2, Option.map_some, oS_some, bind_ok, bind_ok, ← set_stE, List.map_set]
  rw [q]
  exact hm _ hs.st
theorem ts_aug {o : PyData → PyData → Option PyData} {z : PyData} (h0 : atP p i = some (.val x)) (h : TM p f y) (ho : o x y = some z) (hm : TS (stP p i (some (.val z))) c Q) : TS p (sThen (sAug i o f) c) Q := fun ρ hs => by
  have q : sThen (sAug i o f) c ρ = c (ρ.set i (some (.val z))) := by
    have g : gtE ρ i = .ok x := by rw [← e_mGet]; exact t_get h0 ρ hs
    rw [e_sThen, e_sAug, g, at_ok, bind_ok, h ρ hs, at_ok, bind_ok, ho, oS_some, bind_ok, bind_ok, ← set_stE]
  rw [q]
  exact hm _ hs.st
theorem getLast_map (e : α → PyData) (d : α) (h : xs ≠ []) : (xs.map e).getLast? = some (e (xs.getLastD d)) := by
  rw [List.getLast?_map, List.getLastD_eq_getLast?, List.getLast?_eq_some_getLast h]; rfl
theorem ts_pop (h0 : atP p i = some (.own (xs.map e))) (hl : xs ≠ []) (hm : TS (stP p i (some (.own (xs.dropLast.map e)))) c Q) : TS p (sThen (sPop i) c) Q := fun ρ hs => by
  have q : sThen (sPop i) c ρ = c (ρ.set i (some (.own (xs.dropLast.map e)))) := by
    obtain ⟨a, ha⟩ : ∃ a : α, True := by cases xs with
      | nil => exact absurd rfl hl
      | cons a _ => exact ⟨a, trivial⟩
    rw [e_sThen, e_sPop, ← ownAt_gtO, own_at hs h0, oS_some, bind_ok, getLast_map e a hl, oS_some, bind_ok, bind_ok, ← set_stE, List.map_dropLast]
  rw [q]
  exact hm _ hs.st
theorem ts_popTo {j : Nat} (d : α) (h0 : atP p i = some (.own (xs.map e))) (hl : xs ≠ []) (hm : TS (stP (stP p i (some (.own (xs.dropLast.map e)))) j (some (.val (e (xs.getLastD d))))) c Q) : TS p (sThen (sPopTo i j) c) Q := fun ρ hs => by
  have q : sThen (sPopTo i j) c ρ = c ((ρ.set i (some (.own (xs.dropLast.map e)))).set j (some (.val (e (xs.getLastD d))))) := by
    rw [e_sThen, e_sPopTo, ← ownAt_gtO, own_at hs h0, oS_some, bind_ok, getLast_map e d hl, oS_some, bind_ok, bind_ok, ← set_stE, ← set_stE, List.map_dropLast]
  rw [q]
  exact hm _ hs.st.st
theorem ts_asg {g : PyData → Evn → Option Evn} (h : TM p f d) (hg : TG p g d q) (hm : TS q c Q) : TS p (sThen (sAsg f g) c) Q := fun ρ hs => by
  obtain ⟨ρ', h1, h2⟩ := hg ρ hs
  have q : sThen (sAsg f g) c ρ = c ρ' := by
    rw [e_sThen, e_sAsg, h ρ hs, at_ok, bind_ok, h1, oS_some, bind_ok, bind_ok]
  rw [q]
  exact hm _ h2
theorem ts_par {j : Nat} {g : Evn → RE (List PyData)} (h : TM p g [x, y]) (hm : TS (stP (stP p i (some (.val x))) j (some (.val y))) c Q) : TS p (sThen (sPar i j g) c) Q := fun ρ hs => by
  have q : sThen (sPar i j g) c ρ = c ((ρ.set i (some (.val x))).set j (some (.val y))) := by
    rw [e_sThen, e_sPar, h ρ hs, at_ok, bind_ok]
    show c (stE (stE ρ i _) j _) = _
    rw [set_stE, set_stE]
  rw [q]
  exact hm _ hs.st.st
theorem then_ret (h : TM p f d) (c : Evn → RS) {ρ : Evn} (hs : Sh p ρ) : sThen (sRet f) c ρ = .ok (.rt d, ρ) := by
  rw [e_sThen, e_sRet, h ρ hs, at_ok, bind_ok, bind_ok]
theorem ts_retF {v : τ} (h : TM p f (eτ v)) : TS p (sThen (sRet f) c) (QF eτ v) := fun ρ hs => by
  rw [then_ret h c hs]; rfl
theorem ts_retL {v : τ} (h : TM p f (eτ v)) : TS p (sThen (sRet f) c) (QL E eτ (.rt v)) := fun ρ hs => by
  rw [then_ret h c hs]; exact ⟨_, _, rfl, rfl⟩
theorem ts_retNF {v : τ} (h : eτ v = .none) : TS p (sThen (fun ρ => .ok (.rt .none, ρ)) c) (QF eτ v) := fun ρ hs => by
  show bodyOut (.ok (.rt .none, ρ)) = _
  rw [h]; rfl
theorem ts_bk {s : σ} (h : Sb p (E s)) : TS p (sThen (fun ρ => .ok (.bk, ρ)) c) (QL E eτ (.bk s)) := fun ρ hs => ⟨_, _, rfl, rfl, h.sh hs⟩
theorem ts_ct {s : σ} (h : Sb p (E s)) : TS p (sThen (fun ρ => .ok (.ct, ρ)) c) (QL E eτ (.nx s)) := fun ρ hs => ⟨_, _, rfl, .inr rfl, h.sh hs⟩
theorem ts_finL {s : σ} (h : Sb p (E s)) : TS p sNx (QL E eτ (.nx s)) := fun ρ hs => ⟨_, _, rfl, .inl rfl, h.sh hs⟩
theorem ts_finJ {s : σ} (h : Sb p (E s)) : TS p sNx (QJ E s) := fun ρ hs => ⟨_, rfl, h.sh hs⟩
theorem ts_finF {v : τ} (h : eτ v = .none) : TS p sNx (QF eτ v) := fun ρ hs => by
  show bodyOut (.ok (.nx, ρ)) = _
  rw [h]; rfl
theorem then_if {t : Evn → RE Bool} {k : Bool} (hc : TM p t k) {ρ : Evn} (hs : Sh p ρ) : sThen (sIf t a b) c ρ = if k = true then sThen a c ρ else sThen b c ρ := by
  rw [e_sThen, e_sIf, hc ρ hs, at_ok, bind_ok]
  cases k <;> simp
theorem ts_if {t : Evn → RE Bool} {k : Bool} {u v : V} (hc : TM p t k) (ha : k = true → TS p (sThen a c) (QQ u)) (hb : k = false → TS p (sThen b c) (QQ v)) : TS p (sThen (sIf t a b) c) (QQ (if k = true then u else v)) := fun ρ hs => by
  rw [then_if hc hs]
  cases k with
  | true => rw [if_pos rfl, if_pos rfl]; exact ha rfl ρ hs
  | false => rw [if_neg (by decide), if_neg (by decide)]; exact hb rfl ρ hs
theorem ts_join {t : Evn → RE Bool} {k : Bool} {u v : σ} (hc : TM p t k) (ha : k = true → TS p a (QJ E u)) (hb : k = false → TS p b (QJ E v)) (hr : TS (E (if k = true then u else v)) c Q) : TS p (sThen (sIf t a b) c) Q := fun ρ hs => by
  rw [then_if hc hs]
  cases k with
  | true =>
    rw [if_pos rfl] at hr ⊢
    obtain ⟨ρ', h1, h2⟩ := ha rfl ρ hs
    rw [e_sThen, h1, bind_ok]
    exact hr ρ' h2
  | false =>
    rw [if_neg (by decide)] at hr ⊢
    obtain ⟨ρ', h1, h2⟩ := hb rfl ρ hs
    rw [e_sThen, h1, bind_ok]
    exact hr ρ' h2
end
/-! loops -/
/-- what a loop needs at each turn -/
inductive LpS {σ α : Type} (S : σ → α → Prop) (F : σ → α → σ) : List α → σ → Prop
  | nil {s : σ} : LpS S F [] s
  | cons {x : α} {r : List α} {s : σ} : S s x → LpS S F r (F s x) → LpS S F (x :: r) s
theorem LpS.hd {σ α : Type} {S : σ → α → Prop} {F : σ → α → σ} {x : α} {r : List α} {s : σ} (h : LpS S F (x :: r) s) : S s x := by cases h with | cons a b => exact a
theorem LpS.tl {σ α : Type} {S : σ → α → Prop} {F : σ → α → σ} {x : α} {r : List α} {s : σ} (h : LpS S F (x :: r) s) : LpS S F r (F s x) := by cases h with | cons a b => exact b
theorem LpS.inv {σ α : Type} {S : σ → α → Prop} {F : σ → α → σ} (I : σ → Prop) : ∀ {xs : List α} {s : σ}, I s → (∀ s x, x ∈ xs → I s → S s x ∧ I (F s x)) → LpS S F xs s
  | [], _, _, _ => .nil
  | x :: r, s, h0, h => .cons (h s x (List.mem_cons_self ..) h0).1 (LpS.inv I (h s x (List.mem_cons_self ..) h0).2 fun s y hy => h s y (List.mem_cons_of_mem _ hy))
/-- .. by the part that is behind -/
theorem LpS.pre {σ α : Type} {S : σ → α → Prop} {F : σ → α → σ} {xs : List α} {s : σ} (h : ∀ pre x post, xs = pre ++ x :: post → S (pre.foldl F s) x) : LpS S F xs s := by
  have key : ∀ (es pre : List α), xs = pre ++ es → LpS S F es (pre.foldl F s) := by
    intro es
    induction es with
    | nil => intro _ _; exact .nil
    | cons x r ih =>
      intro pre e
      refine .cons (h pre x r e) ?_
      have := ih (pre ++ [x]) (by rw [e, List.append_assoc]; rfl)
      rwa [List.foldl_append] at this
  exact key xs [] rfl
theorem fold_inv {σ α : Type} {F : σ → α → σ} (I : σ → Prop) : ∀ {xs : List α} {s : σ}, I s → (∀ s x, x ∈ xs → I s → I (F s x)) → I (xs.foldl F s)
  | [], _, h, _ => h
  | x :: r, s, h0, h => fold_inv (F := F) I (xs := r) (s := F s x) (h s x (List.mem_cons_self ..) h0) fun s y hy => h s y (List.mem_cons_of_mem _ hy)
theorem fold_pre {σ α : Type} {F : σ → α → σ} {xs : List α} {s : σ} (I : List α → σ → Prop) (h0 : I [] s) (h : ∀ pre x post s, xs = pre ++ x :: post → I pre s → I (pre ++ [x]) (F s x)) : I xs (xs.foldl F s) := by
  have key : ∀ (es pre : List α) (s : σ), xs = pre ++ es → I pre s → I xs (es.foldl F s) := by
    intro es
    induction es with
    | nil => intro pre s e hi; rw [List.append_nil] at e; subst e; exact hi
    | cons x r ih => intro pre s e hi; exact ih (pre ++ [x]) (F s x) (by rw [e, List.append_assoc]; rfl) (h pre x r s e hi)
  exact key xs [] s rfl h0
def loopR {σ τ α : Type} (F : σ → α → Stp σ τ) : List α → σ → Lp σ τ
  | [], s => .nx s
  | x :: r, s => match F s x with
    | .nx s' => loopR F r s'
    | .bk s' => .nx s'
    | .rt v => .rt v
inductive LpR {σ τ α : Type} (S : σ → α → Prop) (F : σ → α → Stp σ τ) : List α → σ → Prop
  | nil {s : σ} : LpR S F [] s
  | cons {x : α} {r : List α} {s : σ} : S s x → (∀ s', F s x = .nx s' → LpR S F r s') → LpR S F (x :: r) s
theorem LpR.hd {σ τ α : Type} {S : σ → α → Prop} {F : σ → α → Stp σ τ} {x : α} {r : List α} {s : σ} (h : LpR S F (x :: r) s) : S s x := by cases h with | cons a b => exact a
theorem LpR.tl {σ τ α : Type} {S : σ → α → Prop} {F : σ → α → Stp σ τ} {x : α} {r : List α} {s s' : σ} (h : LpR S F (x :: r) s) (e : F s x = .nx s') : LpR S F r s' := by cases h with | cons a b => exact b s' e
theorem LpR.inv {σ τ α : Type} {S : σ → α → Prop} {F : σ → α → Stp σ τ} (I : σ → Prop) : ∀ {xs : List α} {s : σ}, I s → (∀ s x, x ∈ xs → I s → S s x ∧ ∀ s', F s x = .nx s' → I s') → LpR S F xs s
  | [], _, _, _ => .nil
  | x :: r, s, h0, h => by
    have h1 := h s x (List.mem_cons_self ..) h0
    exact .cons h1.1 fun s' e => LpR.inv I (h1.2 s' e) fun s y hy => h s y (List.mem_cons_of_mem _ hy)
theorem loopR_cons {σ τ α : Type} (F : σ → α → Stp σ τ) (x : α) (r : List α) (s : σ) : loopR F (x :: r) s = match F s x with
    | .nx s' => loopR F r s'
    | .bk s' => .nx s'
    | .rt v => .rt v := rfl
/-- a loop that only ever goes on -/
theorem loopR_fold {σ τ α : Type} {F : σ → α → Stp σ τ} {G : σ → α → σ} (I : σ → Prop) : ∀ {xs : List α} {s : σ}, I s → (∀ s x, x ∈ xs → I s → F s x = .nx (G s x) ∧ I (G s x)) → loopR F xs s = .nx (xs.foldl G s)
  | [], _, _, _ => rfl
  | x :: r, s, h0, h => by
    have h1 := h s x (List.mem_cons_self ..) h0
    rw [loopR_cons, h1.1]
    exact loopR_fold I h1.2 fun s y hy => h s y (List.mem_cons_of_mem _ hy)
section
variable {p : Pt} {σ τ α V : Type} {Q : RS → Prop} {QQ : V → RS → Prop} {body c : Evn → RS} {w : Evn → RE (List PyData)} {g : PyData → Evn → Option Evn} {E : σ → Pt} {eτ : τ → PyData} {e : α → PyData} {xs : List α} {s0 : σ} {q : σ → α → Pt}
theorem for_fold {S : σ → α → Prop} {F : σ → α → σ} (hg : ∀ s x, TG (E s) g (e x) (q s x)) (hb : ∀ s x, x ∈ xs → S s x → TS (q s x) body (QL E eτ (.nx (F s x)))) : ∀ (ys : List α) (s : σ) (ρ : Evn), (∀ y ∈ ys, y ∈ xs) → LpS S F ys s → Sh (E s) ρ → ∃ ρ', forM g body (ys.map e) ρ = .ok (.nx, ρ') ∧ Sh (E (ys.foldl F s)) ρ'
  | [], s, ρ, _, _, h => ⟨ρ, rfl, h⟩
  | y :: r, s, ρ, hm, hl, h => by
    obtain ⟨ρ1, h1, h2⟩ := hg s y ρ h
    obtain ⟨fl, ρ2, h3, h4, h5⟩ := hb s y (hm y (List.mem_cons_self ..)) hl.hd ρ1 h2
    obtain ⟨ρ3, h6, h7⟩ := for_fold hg hb r (F s y) ρ2 (fun z hz => hm z (List.mem_cons_of_mem _ hz)) hl.tl h5
    refine ⟨ρ3, ?_, h7⟩
    rw [List.map_cons, forM_cons, h1, oS_some, bind_ok, h3, bind_ok]
    rcases h4 with rfl | rfl <;> exact h6
theorem ts_for {S : σ → α → Prop} {F : σ → α → σ} (h0 : Sb p (E s0)) (hw : TM p w (xs.map e)) (hl : LpS S F xs s0) (hg : ∀ s x, TG (E s) g (e x) (q s x)) (hb : ∀ s x, x ∈ xs → S s x → TS (q s x) body (QL E eτ (.nx (F s x)))) (hr : TS (E (xs.foldl F s0)) c Q) : TS p (sThen (sFor w g body) c) Q := fun ρ hs => by
  obtain ⟨ρ', h1, h2⟩ := for_fold hg hb xs s0 ρ (fun _ h => h) hl (h0.sh hs)
  have q : sThen (sFor w g body) c ρ = c ρ' := by
    rw [e_sThen, e_sFor, hw ρ hs, at_ok, bind_ok, h1, bind_ok]
  rw [q]
  exact hr ρ' h2
theorem for_R {S : σ → α → Prop} {F : σ → α → Stp σ τ} (hg : ∀ s x, TG (E s) g (e x) (q s x)) (hb : ∀ s x, x ∈ xs → S s x → TS (q s x) body (QL E eτ (F s x))) : ∀ (ys : List α) (s : σ) (ρ : Evn), (∀ y ∈ ys, y ∈ xs) → LpR S F ys s → Sh (E s) ρ → ∃ fl ρ', forM g body (ys.map e) ρ = .ok (fl, ρ') ∧ match loopR F ys s with
      | .nx s' => fl = .nx ∧ Sh (E s') ρ'
      | .rt v => fl = .rt (eτ v)
  | [], s, ρ, _, _, h => ⟨_, ρ, rfl, rfl, h⟩
  | y :: r, s, ρ, hm, hl, h => by
    obtain ⟨ρ1, h1, h2⟩ := hg s y ρ h
    obtain ⟨fl, ρ2, h3, h4⟩ := hb s y (hm y (List.mem_cons_self ..)) hl.hd ρ1 h2
    rw [loopR_cons]
    cases k : F s y with
    | nx s' =>
      rw [k] at h4
      obtain ⟨fl', ρ3, h6, h7⟩ := for_R hg hb r s' ρ2 (fun z hz => hm z (List.mem_cons_of_mem _ hz)) (hl.tl k) h4.2
      refine ⟨fl', ρ3, ?_, h7⟩
      rw [List.map_cons, forM_cons, h1, oS_some, bind_ok, h3, bind_ok]
      rcases h4.1 with rfl | rfl <;> exact h6
    | bk s' =>
      rw [k] at h4
      refine ⟨_, ρ2, ?_, rfl, h4.2⟩
      rw [List.map_cons, forM_cons, h1, oS_some, bind_ok, h3, bind_ok, h4.1]
    | rt v =>
      rw [k] at h4
      refine ⟨.rt (eτ v), ρ2, ?_, rfl⟩
      have h4' : fl = .rt (eτ v) := h4
      rw [List.map_cons, forM_cons, h1, oS_some, bind_ok, h3, bind_ok, h4']
/-- how a return out of a loop ends the part that it stands in -/
theorem ts_forR {S : σ → α → Prop} {F : σ → α → Stp σ τ} {K : τ → V} {G : σ → V} (hK : ∀ v ρ, QQ (K v) (.ok (.rt (eτ v), ρ))) (h0 : Sb p (E s0)) (hw : TM p w (xs.map e)) (hl : LpR S F xs s0) (hg : ∀ s x, TG (E s) g (e x) (q s x)) (hb : ∀ s x, x ∈ xs → S s x → TS (q s x) body (QL E eτ (F s x))) (hr : ∀ s, loopR F xs s0 = .nx s → TS (E s) c (QQ (G s))) : TS p (sThen (sFor w g body) c) (QQ ((loopR F xs s0).el K G)) := fun ρ hs => by
  obtain ⟨fl, ρ', h1, h2⟩ := for_R hg hb xs s0 ρ (fun _ h => h) hl (h0.sh hs)
  have q : sThen (sFor w g body) c ρ = (R.ok (fl, ρ') : RS).bind fun p => match p.1 with | .nx => c p.2 | _ => .ok p := by
    (rw [e_sThen, e_sFor, hw ρ hs, at_ok, bind_ok, h1]) <;> rfl
  rw [q, bind_ok]
  cases k : loopR F xs s0 with
  | nx s =>
    rw [k] at h2
    obtain ⟨rfl, h3⟩ := h2
    exact hr s k ρ' h3
  | rt v =>
    rw [k] at h2
    have h2' : fl = .rt (eτ v) := h2
    subst h2'
    exact hK v ρ'
theorem kF {v : τ} {ρ : Evn} : QF eτ v (.ok (.rt (eτ v), ρ)) := rfl
theorem kL {σ' : Type} {E' : σ' → Pt} {v : τ} {ρ : Evn} : QL E' eτ (.rt v) (.ok (.rt (eτ v), ρ)) := ⟨_, _, rfl, rfl⟩
end
/-! while -/
def whR {σ τ : Type} (t : σ → Bool) (F : σ → Stp σ τ) : Nat → σ → Lp σ τ
  | 0, s => .nx s
  | n + 1, s => if t s = true then (match F s with
    | .nx s' => whR t F n s'
    | .bk s' => .nx s'
    | .rt v => .rt v) else .nx s
inductive whS {σ τ : Type} (St Sb : σ → Prop) (t : σ → Bool) (F : σ → Stp σ τ) : Nat → σ → Prop
  | step {n : Nat} {s : σ} : St s → (t s = true → Sb s) → (t s = true → ∀ s', F s = .nx s' → whS St Sb t F n s') → whS St Sb t F (n + 1) s
theorem whR_succ {σ τ : Type} (t : σ → Bool) (F : σ → Stp σ τ) (n : Nat) (s : σ) : whR t F (n + 1) s = if t s = true then (match F s with
    | .nx s' => whR t F n s'
    | .bk s' => .nx s'
    | .rt v => .rt v) else .nx s := rfl
section
variable {p : Pt} {σ τ V : Type} {Q : RS → Prop} {QQ : V → RS → Prop} {body c : Evn → RS} {tt : Evn → RE Bool} {E : σ → Pt} {eτ : τ → PyData} {s0 : σ}
theorem wh_R {St Sb : σ → Prop} {t : σ → Bool} {F : σ → Stp σ τ} (ht : ∀ s, St s → TM (E s) tt (t s)) (hb : ∀ s, t s = true → Sb s → TS (E s) body (QL E eτ (F s))) : ∀ (n : Nat) (s : σ) (ρ : Evn), whS St Sb t F n s → Sh (E s) ρ → ∃ fl ρ', whileM tt body n ρ = .ok (fl, ρ') ∧ match whR t F n s with
      | .nx s' => fl = .nx ∧ Sh (E s') ρ'
      | .rt v => fl = .rt (eτ v)
  | 0, s, ρ, hl, _ => by cases hl
  | n + 1, s, ρ, hl, h => by
    cases hl with
    | step hl1 hl2 hl5 =>
    have e0 := ht s hl1 ρ h
    unfold whileM
    rw [whR_succ, e0, at_ok, bind_ok]
    by_cases k : t s = true
    · rw [if_pos k, if_pos k]
      have hl3 := hl2 k
      have hl4 := hl5 k
      obtain ⟨fl, ρ2, h3, h4⟩ := hb s k hl3 ρ h
      rw [h3, bind_ok]
      cases k2 : F s with
      | nx s' =>
        rw [k2] at h4
        obtain ⟨fl', ρ3, h6, h7⟩ := wh_R ht hb n s' ρ2 (hl4 s' k2) h4.2
        refine ⟨fl', ρ3, ?_, h7⟩
        rcases h4.1 with rfl | rfl <;> exact h6
      | bk s' =>
        rw [k2] at h4
        refine ⟨_, ρ2, ?_, rfl, h4.2⟩
        rw [h4.1]
      | rt v =>
        rw [k2] at h4
        refine ⟨.rt (eτ v), ρ2, ?_, rfl⟩
        have h4' : fl = .rt (eτ v) := h4
        rw [h4']
    · rw [if_neg k, if_neg k]
      exact ⟨_, ρ, rfl, rfl, h⟩
theorem ts_while {n : Nat} {St Sbo : σ → Prop} {t : σ → Bool} {F : σ → Stp σ τ} {K : τ → V} {G : σ → V} (hK : ∀ v ρ, QQ (K v) (.ok (.rt (eτ v), ρ))) (h0 : Sb p (E s0)) (hl : whS St Sbo t F n s0) (ht : ∀ s, St s → TM (E s) tt (t s)) (hb : ∀ s, t s = true → Sbo s → TS (E s) body (QL E eτ (F s))) (hr : ∀ s, whR t F n s0 = .nx s → TS (E s) c (QQ (G s))) : TS p (sThen (whileM tt body n) c) (QQ ((whR t F n s0).el K G)) := fun ρ hs => by
  obtain ⟨fl, ρ', h1, h2⟩ := wh_R ht hb n s0 ρ hl (h0.sh hs)
  rw [e_sThen, h1, bind_ok]
  cases k : whR t F n s0 with
  | nx s =>
    rw [k] at h2
    obtain ⟨rfl, h3⟩ := h2
    exact hr s k ρ' h3
  | rt v =>
    rw [k] at h2
    have h2' : fl = .rt (eτ v) := h2
    subst h2'
    exact hK v ρ'
end
/-! a def -/
theorem t_fn {τ : Type} {eτ : τ → PyData} {n N : Nat} {b : Evn → RS} {ds : List PyData} {v : τ} (h : ds.length = n) (hb : TS (ptE N ds) b (QF eτ v)) : fnM n N b ds = .ok (eτ v) := by
  rw [fn_go h]
  exact hb _ (sh_start N ds)
end PV
namespace PV
open PySem
/-- let, by a name -/
def bnd {α : Type} {β : Sort _} (a : α) (f : α → β) : β := f a
theorem ln_r {n : Nat} (h : Nat.ble n 1000 = true) : n ≤ sizeLine := ln_ok (Nat.le_of_ble_eq_true h)
theorem ix_mod {n : Nat} {x k : Int} (h0 : 0 < k) (h : k ≤ n) : ixOk n (x % k) := ⟨Int.emod_nonneg _ (by omega), by have := Int.emod_lt_of_pos x h0; omega⟩
theorem LpS.tt {σ α : Type} {F : σ → α → σ} : ∀ {xs : List α} {s : σ}, LpS (fun _ _ => True) F xs s
  | [], _ => .nil
  | _ :: _, _ => .cons trivial LpS.tt
theorem LpR.tt {σ τ α : Type} {F : σ → α → Stp σ τ} {xs : List α} {s : σ} : LpR (fun _ _ => True) F xs s := LpR.inv (fun _ => True) trivial fun _ _ _ _ => ⟨trivial, fun _ _ => trivial⟩
section
variable {p : Pt} {σ τ α γ V : Type} {QQ : V → RS → Prop} {body c : Evn → RS} {f : Evn → RE PyData} {i : Nat} {eγ : γ → PyData} {a : γ} {B : γ → V} {S' : γ → Prop}
theorem ts_setG (h : TM p f (eγ a)) (hS : bnd a S') (hm : ∀ v, S' v → TS (stP p i (some (.val (eγ v)))) c (QQ (B v))) : TS p (sThen (sSet i f) c) (QQ (bnd a B)) := ts_set h (hm a hS)
theorem ts_setLG {g : Evn → RE (List PyData)} {a : List γ} {B : List γ → V} {S' : List γ → Prop} (h : TM p g (a.map eγ)) (hS : bnd a S') (hm : ∀ v, S' v → TS (stP p i (some (.val (encL eγ v)))) c (QQ (B v))) : TS p (sThen (sSetL i g) c) (QQ (bnd a B)) := ts_setL h (hm a hS)
theorem ts_setOG {g : Evn → RE (List PyData)} {a : List γ} {B : List γ → V} {S' : List γ → Prop} (h : TM p g (a.map eγ)) (hS : bnd a S') (hm : ∀ v, S' v → TS (stP p i (some (.own (v.map eγ)))) c (QQ (B v))) : TS p (sThen (sSetO i g) c) (QQ (bnd a B)) := ts_setO h (hm a hS)
theorem ts_augG {o : PyData → PyData → Option PyData} {x y : PyData} (h0 : atP p i = some (.val x)) (h : TM p f y) (ho : o x y = some (eγ a)) (hS : bnd a S') (hm : ∀ v, S' v → TS (stP p i (some (.val (eγ v)))) c (QQ (B v))) : TS p (sThen (sAug i o f) c) (QQ (bnd a B)) := ts_aug h0 h ho (hm a hS)
theorem ts_asgG {g : PyData → Evn → Option Evn} {q : γ → Pt} (h : TM p f (eγ a)) (hS : bnd a S') (hg : ∀ v, TG p g (eγ v) (q v)) (hm : ∀ v, S' v → TS (q v) c (QQ (B v))) : TS p (sThen (sAsg f g) c) (QQ (bnd a B)) := ts_asg h (hg a) (hm a hS)
theorem ts_forG {w : Evn → RE (List PyData)} {g : PyData → Evn → Option Evn} {E : σ → Pt} {eτ : τ → PyData} {e : α → PyData} {xs : List α} {s0 : σ} {q : σ → α → Pt} {B : σ → V} {S' : σ → Prop} {S : σ → α → Prop} {F : σ → α → σ}
    (h0 : Sb p (E s0)) (hw : TM p w (xs.map e)) (hl : LpS S F xs s0) (hg : ∀ s x, TG (E s) g (e x) (q s x)) (hb : ∀ s x, x ∈ xs → S s x → TS (q s x) body (QL E eτ (.nx (F s x)))) (hS : bnd (xs.foldl F s0) S') (hr : ∀ s, S' s → TS (E s) c (QQ (B s))) : TS p (sThen (sFor w g body) c) (QQ (bnd (xs.foldl F s0) B)) :=
  ts_for h0 hw hl hg hb (hr _ hS)
theorem ts_joinG {A C : Evn → RS} {t : Evn → RE Bool} {k : Bool} {u v : σ} {E : σ → Pt} {B : σ → V} {S' : σ → Prop} (hc : TM p t k) (ha : k = true → TS p A (QJ E u)) (hb : k = false → TS p C (QJ E v)) (hS : bnd (if k = true then u else v) S') (hr : ∀ s, S' s → TS (E s) c (QQ (B s))) : TS p (sThen (sIf t A C) c) (QQ (bnd (if k = true then u else v) B)) :=
  ts_join hc ha hb (hr _ hS)
theorem ts_forRU {w : Evn → RE (List PyData)} {g : PyData → Evn → Option Evn} {E : σ → Pt} {eτ : τ → PyData} {e : α → PyData} {xs : List α} {s0 : σ} {q : σ → α → Pt} {S : σ → α → Prop} {F : σ → α → Stp σ τ} {K : τ → V} {G : σ → V}
    (hK : ∀ v ρ, QQ (K v) (.ok (.rt (eτ v), ρ))) (h0 : Sb p (E s0)) (hw : TM p w (xs.map e)) (hl : LpR S F xs s0) (hg : ∀ s x, TG (E s) g (e x) (q s x)) (hb : ∀ s x, x ∈ xs → S s x → TS (q s x) body (QL E eτ (F s x))) (hr : ∀ s, loopR F xs s0 = .nx s → TS (E s) c (QQ (G s))) : TS p (sThen (sFor w g body) c) (QQ ((loopR F xs s0).el K G)) :=
  ts_forR hK h0 hw hl hg hb hr
theorem ts_whileU {tt : Evn → RE Bool} {E : σ → Pt} {eτ : τ → PyData} {s0 : σ} {n : Nat} {St Sbo : σ → Prop} {t : σ → Bool} {F : σ → Stp σ τ} {K : τ → V} {G : σ → V} (hK : ∀ v ρ, QQ (K v) (.ok (.rt (eτ v), ρ))) (h0 : Sb p (E s0)) (hl : whS St Sbo t F n s0) (ht : ∀ s, St s → TM (E s) tt (t s)) (hb : ∀ s, t s = true → Sbo s → TS (E s) body (QL E eτ (F s))) (hr : ∀ s, whR t F n s0 = .nx s → TS (E s) c (QQ (G s))) : TS p (sThen (whileM tt body n) c) (QQ ((whR t F n s0).el K G)) :=
  ts_while hK h0 hl ht hb hr
end
section
variable {α : Type} {e : α → PyData} {xs ys : List α}
theorem f_i0 (x : PyData) (r : List PyData) : pIdx (.tuple (x :: r)) (.int 0) = some x := at_0 x r
theorem f_i1 (x y : PyData) (r : List PyData) : pIdx (.tuple (x :: y :: r)) (.int 1) = some y := at_1 x y r
theorem f_i2 (x y z : PyData) (r : List PyData) : pIdx (.tuple (x :: y :: z :: r)) (.int 2) = some z := at_2 x y z r
theorem f_i3 (x y z u : PyData) (r : List PyData) : pIdx (.tuple (x :: y :: z :: u :: r)) (.int 3) = some u := at_3 x y z u r
theorem f_i4 (x y z u v : PyData) (r : List PyData) : pIdx (.tuple (x :: y :: z :: u :: v :: r)) (.int 4) = some v := at_4 x y z u v r
theorem f_i5 (x y z u v w : PyData) (r : List PyData) : pIdx (.tuple (x :: y :: z :: u :: v :: w :: r)) (.int 5) = some w := at_5 x y z u v w r
theorem f_idxU {i : Int} {d : α} (h : ixOk xs.length i) : pIdx (encU e xs) (.int i) = some (e (xs.getD i.toNat d)) := f_idxL h
theorem f_lenU : bLen [encU e xs] = some (.int xs.length) := by rw [d_lenT, List.length_map]
theorem f_eqA {d d' : PyData} (h : eqOk d d') : pEq d d' = some (.bool (PyData.eqv d d')) := if_pos h
theorem f_neA {d d' : PyData} (h : eqOk d d') : pNe d d' = some (.bool (!PyData.eqv d d')) := if_pos h
theorem f_addS {x y : Str} (h : x.length + y.length ≤ sizeLine) : pAdd (.str x) (.str y) = some (.str (x ++ y)) := if_pos h
end
end PV
namespace PV
open PySem
theorem unLO {α : Type} {e : α → PyData} {xs : List (Option α)} {d : α} (h : ∀ x ∈ xs, x.isSome = true) : xs.map (encO e) = (xs.map fun x => x.getD d).map e := by
  rw [List.map_map]
  apply List.map_congr_left
  intro x hx
  cases x with
  | none => have := h _ hx; cases this
  | some a => rfl
end PV
namespace PV
open PySem
/-- what a meaning gives, without a look at it -/
noncomputable def opq {α : Type} [Inhabited α] (e : α → PyData) (r : RE PyData) : α := open Classical in if h : ∃ v, r = .ok (e v) then h.choose else default
theorem opq_T {α : Type} [Inhabited α] {e : α → PyData} {r : RE PyData} (h : ∃ v, r = .ok (e v)) : r = .ok (e (opq e r)) := by
  unfold opq
  rw [dif_pos h]
  exact h.choose_spec
theorem ok_inj {ε α : Type} {a b : α} (h : (R.ok a : R ε α) = R.ok b) : a = b := by injection h
theorem opq_B {r : RE PyData} {b : Bool} (h : r = .ok (.bool b)) : opq PyData.bool r = b := by
  have := ok_inj (h.symm.trans (opq_T (e := PyData.bool) ⟨b, h⟩))
  injection this with this
  exact this.symm
theorem opq_I {r : RE PyData} {b : Int} (h : r = .ok (.int b)) : opq PyData.int r = b := by
  have := ok_inj (h.symm.trans (opq_T (e := PyData.int) ⟨b, h⟩))
  injection this with this
  exact this.symm
theorem map_idD (ds : List PyData) : ds.map idD = ds := List.map_id' ds
theorem opq_LA {r : RE PyData} {ds : List PyData} (h : r = .ok (.list ds)) : opq (encL idD) r = ds := by
  have h' : r = .ok (encL idD ds) := by rw [h]; show _ = R.ok (PyData.list (ds.map idD)); rw [map_idD]
  have := ok_inj (h'.symm.trans (opq_T (e := encL idD) ⟨ds, h'⟩))
  injection this with this
  rw [map_idD, map_idD] at this
  exact this.symm
instance : Inhabited PyData := ⟨.none⟩
theorem opq_A {r : RE PyData} {d : PyData} (h : r = .ok d) : opq idD r = d := (ok_inj (h.symm.trans (opq_T (e := idD) ⟨d, h⟩))).symm
end PV
namespace PV
open PySem
section
variable {a b : Int} {p q : Bool}
theorem f_add : pAdd (.int a) (.int b) = some (.int (a + b)) := rfl
theorem f_iadd : pIAdd (.int a) (.int b) = some (.int (a + b)) := rfl
theorem f_sub : pSub (.int a) (.int b) = some (.int (a - b)) := rfl
theorem f_lt : pLt (.int a) (.int b) = some (.bool (decide (a < b))) := rfl
theorem f_le : pLe (.int a) (.int b) = some (.bool (decide (a ≤ b))) := rfl
theorem f_gt : pGt (.int a) (.int b) = some (.bool (decide (b < a))) := rfl
theorem f_ge : pGe (.int a) (.int b) = some (.bool (decide (b ≤ a))) := rfl
theorem f_neg : pNeg (.int a) = some (.int (-a)) := rfl
theorem f_not : pNot (.bool p) = some (.bool (!p)) := rfl
theorem f_intI : bInt [.int a] = some (.int a) := rfl
theorem f_intB : bInt [.bool p] = some (.int (if p = true then 1 else 0)) := rfl
theorem f_gcd : bGcd [.int a, .int b] = some (.int ((Nat.gcd a.natAbs b.natAbs : Nat) : Int)) := rfl
theorem f_truB : truth (.bool p) = some p := rfl
theorem f_truI : truth (.int a) = some (a != 0) := rfl
theorem f_isNN0 : pIsN .none .none = some (.bool true) := rfl
theorem f_isNNN0 : pIsNotN .none .none = some (.bool false) := rfl
end
end PV

namespace PV
open PySem
abbrev vv {α : Type} (e : α → PyData) (x : α) : Option Cel := some (.val (e x))
abbrev vo {α : Type} (e : α → PyData) (xs : List α) : Option Cel := some (.own (xs.map e))
theorem ts_p {p : Pt} (q : Pt) {m : Evn → RS} {Q : RS → Prop} (e : p = q) (h : TS q m Q) : TS p m Q := e ▸ h
theorem tm_p {α : Type} {p : Pt} (q : Pt) {m : Evn → RE α} {a : α} (e : p = q) (h : TM q m a) : TM p m a := e ▸ h
end PV
namespace PV
open PySem
theorem mTup_ok {ds : List PyData} (h : Nat.ble ds.length 1000 = true) : mTup ds = .ok (.tuple ds) := if_pos (ln_r h)
theorem mLst_ok {ds : List PyData} (h : Nat.ble ds.length 1000 = true) : mLst ds = .ok (.list ds) := if_pos (ln_r h)
section
variable {α : Type} {e : α → PyData} {xs : List α}
theorem f_idxK {j : Int} {d : α} (n : Nat) (hj : j = (n : Int)) (h : n < xs.length) : pIdx (encL e xs) (.int j) = some (e (xs.getD n d)) := by
  subst hj
  exact f_idxL (i := (n : Int)) ⟨by omega, by omega⟩
theorem f_idxKU {j : Int} {d : α} (n : Nat) (hj : j = (n : Int)) (h : n < xs.length) : pIdx (encU e xs) (.int j) = some (e (xs.getD n d)) := f_idxK n hj h
end
end PV
namespace PV
open PySem
theorem t_as {p : Pt} {α : Type} {f : Evn → RE PyData} (e : α → PyData) (x : α) (h : TM p f (e x)) : TM p f (e x) := h
end PV
namespace PV
open PySem
/-! data without dicts, by type -/
def PlE {α : Type} (d : Nat) (e : α → PyData) : Prop := ∀ k a, d ≤ k → plainD k (e a)
theorem PlE.ok {α : Type} {d k : Nat} {e : α → PyData} (h : PlE d e) (a : α) (hk : d ≤ k := by decide) : plainD k (e a) := h k a hk
theorem pl_succ {d k : Nat} (h : d + 1 ≤ k) : ∃ j, k = j + 1 ∧ d ≤ j := ⟨k - 1, by omega, by omega⟩
theorem ple_I : PlE 1 PyData.int := fun k a h => by obtain ⟨j, rfl, _⟩ := pl_succ h; trivial
theorem ple_B : PlE 1 PyData.bool := fun k a h => by obtain ⟨j, rfl, _⟩ := pl_succ h; trivial
theorem ple_S : PlE 1 PyData.str := fun k a h => by obtain ⟨j, rfl, _⟩ := pl_succ h; trivial
theorem ple_N : PlE 1 eN := fun k a h => by obtain ⟨j, rfl, _⟩ := pl_succ h; trivial
section
variable {α β γ δ : Type} {n m k l : Nat} {e : α → PyData} {f : β → PyData} {g : γ → PyData} {h : δ → PyData}
theorem ple_O (he : PlE n e) (hn : 1 ≤ n := by decide) : PlE n (encO e) := fun k a hk => by
  cases a with
  | none => obtain ⟨j, rfl, _⟩ := pl_succ (Nat.le_trans hn hk); trivial
  | some a => exact he k a hk
theorem ple_2 (he : PlE n e) (hf : PlE m f) : PlE (max n m + 1) (enc2 e f) := fun k a hk => by
  obtain ⟨j, rfl, hj⟩ := pl_succ hk
  refine ⟨by simp, fun x hx => ?_⟩
  simp only [List.mem_cons, List.not_mem_nil, or_false] at hx
  rcases hx with rfl | rfl
  · exact he j _ (by omega)
  · exact hf j _ (by omega)
theorem ple_3 (he : PlE n e) (hf : PlE m f) (hg : PlE k g) : PlE (max n (max m k) + 1) (enc3 e f g) := fun k a hk => by
  obtain ⟨j, rfl, hj⟩ := pl_succ hk
  refine ⟨by simp, fun x hx => ?_⟩
  simp only [List.mem_cons, List.not_mem_nil, or_false] at hx
  rcases hx with rfl | rfl | rfl
  · exact he j _ (by omega)
  · exact hf j _ (by omega)
  · exact hg j _ (by omega)
theorem ple_4 (he : PlE n e) (hf : PlE m f) (hg : PlE k g) (hh : PlE l h) : PlE (max n (max m (max k l)) + 1) (enc4 e f g h) := fun k a hk => by
  obtain ⟨j, rfl, hj⟩ := pl_succ hk
  refine ⟨by simp, fun x hx => ?_⟩
  simp only [List.mem_cons, List.not_mem_nil, or_false] at hx
  rcases hx with rfl | rfl | rfl | rfl
  · exact he j _ (by omega)
  · exact hf j _ (by omega)
  · exact hg j _ (by omega)
  · exact hh j _ (by omega)
theorem plain_L {xs : List α} (he : ∀ x ∈ xs, plainD n (e x)) (hl : xs.length ≤ sizeLine) : plainD (n + 1) (encL e xs) := ⟨by rw [List.length_map]; rw [line_eq] at hl; omega, fun x hx => by
  obtain ⟨y, hy, rfl⟩ := List.mem_map.mp hx
  exact he y hy⟩
theorem plain_LE {xs : List α} (he : PlE n e) (hl : xs.length ≤ sizeLine) (hk : n + 1 ≤ k := by decide) : plainD k (encL e xs) := by
  obtain ⟨j, rfl, hj⟩ := pl_succ hk
  exact plain_L (fun x _ => he j x hj) hl
end

/-! proving what is needed -/
theorem bnd_of {α : Type} {a : α} {S : α → Prop} (P : α → Prop) (h : P a) (hs : ∀ v, P v → S v) : bnd a S := hs a h
theorem bnd_and {α β : Type} {a : α} {S : α → Prop} {B : α → β} {b : β} (P : α → Prop) (h : P a) (hs : ∀ v, P v → S v ∧ B v = b) : bnd a S ∧ bnd a B = b := hs a h
theorem gd {g S F : Prop} (h : g) (hs : S ∧ F) : (g ∧ S) ∧ F := ⟨⟨h, hs.1⟩, hs.2⟩
/-- a loop over a run of whole numbers: what it needs, and what holds behind it -/
theorem LpS_rng {σ : Type} {S : σ → Int → Prop} {F : σ → Int → σ} {n : Int} {s0 : σ} (I : Int → σ → Prop) (h0 : I 0 s0) (hn : 0 ≤ n) (h : ∀ k s, 0 ≤ k → k < n → I k s → S s k ∧ I (k + 1) (F s k)) : LpS S F (rngI 0 n) s0 ∧ I n ((rngI 0 n).foldl F s0) := by
  have key : ∀ (j : Nat) (lo : Int) (s : σ), 0 ≤ lo → (n - lo).toNat = j → lo ≤ n → I lo s → LpS S F (rngI lo n) s ∧ I n ((rngI lo n).foldl F s) := by
    intro j
    induction j with
    | zero =>
      intro lo s _ e hl hi
      have : lo = n := by omega
      subst this
      rw [rngI_nil (Int.le_refl _)]
      exact ⟨.nil, hi⟩
    | succ j ih =>
      intro lo s h0 e hl hi
      rw [rngI_cons (by omega)]
      obtain ⟨h1, h2⟩ := h lo s h0 (by omega) hi
      obtain ⟨h3, h4⟩ := ih (lo + 1) (F s lo) (by omega) (by omega) (by omega) h2
      exact ⟨.cons h1 h3, h4⟩
  exact key _ 0 s0 (Int.le_refl _) rfl hn h0
theorem fold_rng {σ : Type} {F : σ → Int → σ} {n : Int} {s0 : σ} (I : Int → σ → Prop) (h0 : I 0 s0) (hn : 0 ≤ n) (h : ∀ k s, 0 ≤ k → k < n → I k s → I (k + 1) (F s k)) : I n ((rngI 0 n).foldl F s0) :=
  (LpS_rng (S := fun _ _ => True) I h0 hn fun k s a b c => ⟨trivial, h k s a b c⟩).2
theorem LpS_inv {σ α : Type} {S : σ → α → Prop} {F : σ → α → σ} {xs : List α} {s : σ} (I : σ → Prop) (h0 : I s) (h : ∀ s x, x ∈ xs → I s → S s x ∧ I (F s x)) : LpS S F xs s ∧ I (xs.foldl F s) :=
  ⟨LpS.inv I h0 h, fold_inv I h0 fun s x hx hi => (h s x hx hi).2⟩
theorem LpS_pre {σ α : Type} {S : σ → α → Prop} {F : σ → α → σ} {xs : List α} {s : σ} (I : List α → σ → Prop) (h0 : I [] s) (h : ∀ pre x post s, xs = pre ++ x :: post → I pre s → S s x ∧ I (pre ++ [x]) (F s x)) : LpS S F xs s ∧ I xs (xs.foldl F s) := by
  have key : ∀ (es pre : List α) (s : σ), xs = pre ++ es → I pre s → LpS S F es s ∧ I xs (es.foldl F s) := by
    intro es
    induction es with
    | nil => intro pre s e hi; rw [List.append_nil] at e; subst e; exact ⟨.nil, hi⟩
    | cons x r ih =>
      intro pre s e hi
      obtain ⟨h1, h2⟩ := h pre x r s e hi
      obtain ⟨h3, h4⟩ := ih (pre ++ [x]) (F s x) (by rw [e, List.append_assoc]; rfl) h2
      exact ⟨.cons h1 h3, h4⟩
  exact key xs [] s rfl h0
/-- a loop that finds nothing to leave for -/
theorem loopR_all {τ α : Type} {F : Unit → α → Stp Unit τ} {xs : List α} (h : ∀ x ∈ xs, F () x = .nx ()) : loopR F xs () = .nx () := by
  induction xs with
  | nil => rfl
  | cons x r ih => rw [loopR_cons, h x (List.mem_cons_self ..)]; exact ih fun y hy => h y (List.mem_cons_of_mem _ hy)
theorem LpR_all {τ α : Type} {S : Unit → α → Prop} {F : Unit → α → Stp Unit τ} {xs : List α} (h : ∀ x ∈ xs, S () x) : LpR S F xs () := LpR.inv (fun _ => True) trivial fun s x hx _ => ⟨h x hx, fun _ _ => trivial⟩
theorem el_nx {σ τ V : Type} {s : σ} {f : τ → V} {g : σ → V} : (Lp.nx s : Lp σ τ).el f g = g s := rfl
theorem el_rt {σ τ V : Type} {v : τ} {f : τ → V} {g : σ → V} : (Lp.rt v : Lp σ τ).el f g = f v := rfl
/-- a search -/
theorem loopR_find {α β : Type} {F : Unit → α → Stp Unit β} (p : α → Bool) (f : α → β) (h : ∀ x, F () x = if p x = true then .rt (f x) else .nx ()) : ∀ xs : List α, loopR F xs () = match xs.find? p with
    | some x => .rt (f x)
    | none => .nx ()
  | [] => rfl
  | x :: r => by
    rw [loopR_cons, h x, List.find?_cons]
    cases p x with
    | true => rfl
    | false => exact loopR_find p f h r
end PV
namespace PV
open PySem
section
variable {p : Pt} {α V : Type} {QQ : V → RS → Prop} {c : Evn → RS} {i : Nat} {eγ : α → PyData} {B : List α → V} {S' : List α → Prop} {xs : List α}
theorem ts_setIxG {fk fe : Evn → RE PyData} {j : Int} {x : α} (h0 : atP p i = some (.own (xs.map eγ))) (hk : TM p fk (.int j)) (h : TM p fe (eγ x)) (hl : ixOk xs.length j) (hS : bnd (xs.set j.toNat x) S') (hm : ∀ v, S' v → TS (stP p i (some (.own (v.map eγ)))) c (QQ (B v))) : TS p (sThen (sSetIx i fk fe) c) (QQ (bnd (xs.set j.toNat x) B)) :=
  ts_setIx h0 hk h hl (hm _ hS)
theorem ts_augIxG {fk fe : Evn → RE PyData} {o : Int → Int → Int} {j y : Int} {xs : List Int} {B : List Int → V} {S' : List Int → Prop} (h0 : atP p i = some (.own (xs.map PyData.int))) (hk : TM p fk (.int j)) (h : TM p fe (.int y)) (hl : ixOk xs.length j) (hS : bnd (xs.set j.toNat (o (xs.getD j.toNat 0) y)) S') (hm : ∀ v, S' v → TS (stP p i (some (.own (v.map PyData.int)))) c (QQ (B v))) : TS p (sThen (sAugIx i fk o fe) c) (QQ (bnd (xs.set j.toNat (o (xs.getD j.toNat 0) y)) B)) :=
  ts_augIx h0 hk h hl (hm _ hS)
end
end PV
namespace PV
open PySem
theorem t_coL {p : Pt} {α β : Type} {f : Evn → RE PyData} {e : α → PyData} {e' : β → PyData} {xs : List α} (c : α → β) (hc : ∀ x, e' (c x) = e x) (h : TM p f (encL e xs)) : TM p f (encL e' (xs.map c)) := by
  have : encL e' (xs.map c) = encL e xs := by
    show PyData.list ((xs.map c).map e') = PyData.list (xs.map e)
    rw [List.map_map]
    exact congrArg PyData.list (List.map_congr_left fun x _ => hc x)
  rw [this]; exact h
end PV
namespace PV
open PySem
theorem t_coE {p : Pt} {α β : Type} {f : Evn → RE PyData} {e : α → PyData} {e' : β → PyData} {x : α} (y : β) (hc : e' y = e x) (h : TM p f (e x)) : TM p f (e' y) := by rw [hc]; exact h
end PV

namespace PV
open PySem
section
variable {α : Type} {e : α → PyData} {xs : List α}
theorem f_items : itemsOf (encL e xs) = some (xs.map e) := rfl
theorem f_itemsU : itemsOf (encU e xs) = some (xs.map e) := rfl
theorem f_pLst : pLst (encL e xs) = .ok (xs.map e) := rfl
theorem f_listL : bList [encL e xs] = some (encL e xs) := rfl
theorem f_listU : bList [encU e xs] = some (encL e xs) := rfl
theorem f_tupL : bTuple [encL e xs] = some (encU e xs) := rfl
end
end PV
namespace PV
open PySem
/-- of a part that goes on or leaves the def -/
def QR {σ τ : Type} (E : σ → Pt) (e : τ → PyData) (r : Lp σ τ) (o : RS) : Prop := ∃ fl ρ', o = .ok (fl, ρ') ∧ match r with
  | .nx s => fl = .nx ∧ Sh (E s) ρ'
  | .rt v => fl = .rt (e v)
section
variable {p : Pt} {σ τ V : Type} {QQ : V → RS → Prop} {c : Evn → RS} {f : Evn → RE PyData} {E : σ → Pt} {eτ : τ → PyData}
theorem ts_retR {v : τ} (h : TM p f (eτ v)) : TS p (sThen (sRet f) c) (QR E eτ (.rt v)) := fun ρ hs => by
  rw [then_ret h c hs]; exact ⟨_, _, rfl, rfl⟩
theorem ts_finR {s : σ} (h : Sb p (E s)) : TS p sNx (QR E eτ (.nx s)) := fun ρ hs => ⟨_, _, rfl, rfl, h.sh hs⟩
theorem kR {σ' : Type} {E' : σ' → Pt} {v : τ} {ρ : Evn} : QR E' eτ (.rt v) (.ok (.rt (eτ v), ρ)) := ⟨_, _, rfl, rfl⟩
theorem ts_joinR {A C : Evn → RS} {t : Evn → RE Bool} {k : Bool} {u v : Lp σ τ} {K : τ → V} {G : σ → V} (hK : ∀ v ρ, QQ (K v) (.ok (.rt (eτ v), ρ))) (hc : TM p t k) (ha : k = true → TS p A (QR E eτ u)) (hb : k = false → TS p C (QR E eτ v)) (hr : ∀ s, (if k = true then u else v) = .nx s → TS (E s) c (QQ (G s))) : TS p (sThen (sIf t A C) c) (QQ ((if k = true then u else v).el K G)) := fun ρ hs => by
  have key : ∀ (M : Evn → RS) (r : Lp σ τ), TS p M (QR E eτ r) → (∀ s, r = .nx s → TS (E s) c (QQ (G s))) → QQ (r.el K G) (sThen M c ρ) := by
    intro M r hM hr
    obtain ⟨fl, ρ', h1, h2⟩ := hM ρ hs
    rw [e_sThen, h1, bind_ok]
    cases r with
    | nx s =>
      obtain ⟨rfl, h3⟩ := h2
      exact hr s rfl ρ' h3
    | rt v =>
      have h2' : fl = .rt (eτ v) := h2
      subst h2'
      exact hK v ρ'
  rw [then_if hc hs]
  cases k with
  | true =>
    rw [if_pos rfl] at hr
    rw [if_pos rfl, if_pos rfl]
    exact key A u (ha rfl) hr
  | false =>
    rw [if_neg (by decide)] at hr
    rw [if_neg (by decide), if_neg (by decide)]
    exact key C v (hb rfl) hr
end
end PV
end
section
set_option Elab.async false
set_option linter.all false
set_option maxRecDepth 100000
set_option maxHeartbeats 4000000
/-! VQ: what is needed and what is given, proved side by side. -/
namespace PV
open PySem
def Ok {β : Type} (S : Prop) (x : β) (Q : β → Prop) : Prop := S ∧ Q x
section
variable {β γ σ τ α : Type} {S S1 S2 g : Prop} {x y : β} {Q : β → Prop} {a : γ} {S' : γ → Prop} {B : γ → β} {c : Bool}
theorem ok_end (h : S) (q : Q x) : Ok S x Q := ⟨h, q⟩
theorem ok_g (h : g) (k : Ok S x Q) : Ok (g ∧ S) x Q := ⟨⟨h, k.1⟩, k.2⟩
theorem ok_bnd (P : γ → Prop) (h : P a) (k : ∀ v, P v → Ok (S' v) (B v) Q) : Ok (bnd a S') (bnd a B) Q := k a h
theorem ok_bnd0 (P : γ → Prop) (h : P a) (k : ∀ v, P v → Ok S (B v) Q) : Ok S (bnd a B) Q := k a h
theorem ok_bndG (P : γ → Prop) (h : g) (h' : P a) (k : ∀ v, P v → Ok (S' v) (B v) Q) : Ok (g ∧ bnd a S') (bnd a B) Q := ok_g h (k a h')
theorem ok_if (h1 : c = true → Ok S1 x Q) (h2 : c = false → Ok S2 y Q) : Ok ((c = true → S1) ∧ (c = false → S2)) (if c = true then x else y) Q := by
  cases c with
  | true => exact ⟨⟨fun _ => (h1 rfl).1, fun h => nomatch h⟩, by rw [if_pos rfl]; exact (h1 rfl).2⟩
  | false => exact ⟨⟨(fun h => nomatch h), fun _ => (h2 rfl).1⟩, by rw [if_neg (by decide)]; exact (h2 rfl).2⟩
theorem ok_ifT (h1 : c = true → Ok S1 x Q) (h2 : c = false → Q y) : Ok (c = true → S1) (if c = true then x else y) Q := by
  cases c with
  | true => exact ⟨fun _ => (h1 rfl).1, by rw [if_pos rfl]; exact (h1 rfl).2⟩
  | false => exact ⟨(fun h => nomatch h), by rw [if_neg (by decide)]; exact h2 rfl⟩
theorem ok_ifF (h1 : c = true → Q x) (h2 : c = false → Ok S2 y Q) : Ok (c = false → S2) (if c = true then x else y) Q := by
  cases c with
  | true => exact ⟨(fun h => nomatch h), by rw [if_pos rfl]; exact h1 rfl⟩
  | false => exact ⟨fun _ => (h2 rfl).1, by rw [if_neg (by decide)]; exact (h2 rfl).2⟩
/-- an if that is not taken -/
theorem ok_no (hc : c = false) (h2 : Ok S2 y Q) : Ok (c = false → S2) (if c = true then x else y) Q := ok_ifF (fun h => by rw [hc] at h; cases h) fun _ => h2
theorem ok_no0 (hc : c = false) (h2 : Ok S y Q) : Ok S (if c = true then x else y) Q := by rw [hc, if_neg (by decide)]; exact h2
theorem ok_noB (hc : c = false) (h2 : Ok S2 y Q) : Ok ((c = true → S1) ∧ (c = false → S2)) (if c = true then x else y) Q := ok_if (fun h => by rw [hc] at h; cases h) fun _ => h2
theorem ok_for {xs : List α} {F : σ → α → σ} {Sb : σ → α → Prop} {s0 : σ} {S' : σ → Prop} {B : σ → β} (I : σ → Prop) (h : LpS Sb F xs s0 ∧ I (xs.foldl F s0)) (k : ∀ s, I s → Ok (S' s) (B s) Q) : Ok (LpS Sb F xs s0 ∧ bnd (xs.foldl F s0) S') (bnd (xs.foldl F s0) B) Q := ok_g h.1 (k _ h.2)
theorem ok_for0 {xs : List α} {F : σ → α → σ} {Sb : σ → α → Prop} {s0 : σ} {B : σ → β} (I : σ → Prop) (h : LpS Sb F xs s0 ∧ I (xs.foldl F s0)) (k : ∀ s, I s → Q (B s)) : Ok (LpS Sb F xs s0) (bnd (xs.foldl F s0) B) Q := ⟨h.1, k _ h.2⟩
/-- a loop that goes through -/
theorem ok_forR {xs : List α} {F : σ → α → Stp σ τ} {Sb : σ → α → Prop} {s0 s1 : σ} {K : τ → β} {G : σ → β} {S2 : σ → Prop} (h1 : LpR Sb F xs s0) (h2 : loopR F xs s0 = .nx s1) (k : Ok (S2 s1) (G s1) Q) : Ok (LpR Sb F xs s0 ∧ ∀ s, loopR F xs s0 = .nx s → S2 s) ((loopR F xs s0).el K G) Q := by
  refine ⟨⟨h1, fun s e => ?_⟩, ?_⟩
  · rw [h2] at e; cases e; exact k.1
  · rw [h2]; exact k.2
theorem ok_forR0 {xs : List α} {F : σ → α → Stp σ τ} {Sb : σ → α → Prop} {s0 s1 : σ} {K : τ → β} {G : σ → β} (h1 : LpR Sb F xs s0) (h2 : loopR F xs s0 = .nx s1) (k : Q (G s1)) : Ok (LpR Sb F xs s0) ((loopR F xs s0).el K G) Q := ⟨h1, by rw [h2]; exact k⟩
theorem Ok.mono {Q' : β → Prop} (h : Ok S x Q) (q : ∀ x, Q x → Q' x) : Ok S x Q' := ⟨h.1, q _ h.2⟩
end
/-- a walk that goes through, each turn being right -/
theorem ok_all {τ α : Type} {Sb : Unit → α → Prop} {F : Unit → α → Stp Unit τ} {xs : List α} (h : ∀ x ∈ xs, Sb () x ∧ F () x = .nx ()) : LpR Sb F xs () ∧ loopR F xs () = .nx () := ⟨LpR_all fun x hx => (h x hx).1, loopR_all fun x hx => (h x hx).2⟩
end PV
namespace PV
open PySem
theorem loop_any {τ α : Type} {F : Unit → α → Stp Unit τ} {v : τ} (c : α → Bool) : ∀ {xs : List α}, (∀ x ∈ xs, F () x = if c x = true then .rt v else .nx ()) → loopR F xs () = if xs.any c = true then .rt v else .nx ()
  | [], _ => rfl
  | x :: r, h => by
    rw [loopR_cons, h x (List.mem_cons_self ..), List.any_cons]
    cases c x with
    | true => rfl
    | false => exact loop_any c fun y hy => h y (List.mem_cons_of_mem _ hy)
theorem take_succ_sum (l : List Int) (m : Nat) : (l.take (m + 1)).sum = (l.take m).sum + l.getD m 0 := by
  induction l generalizing m with
  | nil => simp
  | cons x r ih => cases m with
    | zero => simp
    | succ m => rw [List.take_succ_cons, List.take_succ_cons, List.sum_cons, List.sum_cons, ih, List.getD_cons_succ]; omega
theorem getD_drop (l : List Int) (a m : Nat) : (l.drop a).getD m 0 = l.getD (a + m) 0 := by
  rw [List.getD_eq_getElem?_getD, List.getD_eq_getElem?_getD, List.getElem?_drop]
theorem gd_mem {α : Type} {l : List α} {i : Nat} {d : α} (h : i < l.length) : l.getD i d ∈ l := by
  rw [List.getD_eq_getElem?_getD, List.getElem?_eq_getElem h]; exact List.getElem_mem h
theorem getD_rngI {lo hi : Int} {i : Nat} {d : Int} (h : i < (hi - lo).toNat) : (rngI lo hi).getD i d = lo + i := by
  rw [List.getD_eq_getElem?_getD, rngI_get h]; rfl
theorem all_map {α : Type} (l : List α) (f : α → Bool) : (l.map f).all id = l.all f := by rw [List.all_map]; rfl
theorem any_map' {α : Type} (l : List α) (f : α → Bool) : (l.map f).any id = l.any f := by rw [List.any_map]; rfl
end PV
namespace PV
open PySem
theorem get3P {α : Type} {P : α → Prop} {a b c z : α} {i : Int} (h0 : 0 ≤ i) (h1 : i < 3) (ha : P a) (hb : P b) (hc : P c) : P ([a, b, c].getD i.toNat z) := by
  have : i = 0 ∨ i = 1 ∨ i = 2 := by omega
  rcases this with e | e | e <;> subst e <;> assumption
theorem get4P {α : Type} {P : α → Prop} {a b c d z : α} {i : Int} (h0 : 0 ≤ i) (h1 : i < 4) (ha : P a) (hb : P b) (hc : P c) (hd : P d) : P ([a, b, c, d].getD i.toNat z) := by
  have : i = 0 ∨ i = 1 ∨ i = 2 ∨ i = 3 := by omega
  rcases this with e | e | e | e <;> subst e <;> assumption
theorem get2P {α : Type} {P : α → Prop} {a b z : α} {i : Int} (h0 : 0 ≤ i) (h1 : i < 2) (ha : P a) (hb : P b) : P ([a, b].getD i.toNat z) := by
  have : i = 0 ∨ i = 1 := by omega
  rcases this with e | e <;> subst e <;> assumption
theorem get5P {α : Type} {P : α → Prop} {a b c d f z : α} {i : Int} (h0 : 0 ≤ i) (h1 : i < 5) (ha : P a) (hb : P b) (hc : P c) (hd : P d) (hf : P f) : P ([a, b, c, d, f].getD i.toNat z) := by
  have : i = 0 ∨ i = 1 ∨ i = 2 ∨ i = 3 ∨ i = 4 := by omega
  rcases this with e | e | e | e | e <;> subst e <;> assumption
theorem get6P {α : Type} {P : α → Prop} {a b c d f g z : α} {i : Int} (h0 : 0 ≤ i) (h1 : i < 6) (ha : P a) (hb : P b) (hc : P c) (hd : P d) (hf : P f) (hg : P g) : P ([a, b, c, d, f, g].getD i.toNat z) := by
  have : i = 0 ∨ i = 1 ∨ i = 2 ∨ i = 3 ∨ i = 4 ∨ i = 5 := by omega
  rcases this with e | e | e | e | e | e <;> subst e <;> assumption
theorem gd_snoc {α : Type} {l : List α} {x z : α} {i : Nat} (h : i = l.length) : (l ++ [x]).getD i z = x := by
  rw [List.getD_eq_getElem?_getD, List.getElem?_append_right (by omega)]
  have : i - l.length = 0 := by omega
  rw [this]; rfl
theorem gd_app {α : Type} {l m : List α} {z : α} {i : Nat} (h : i < l.length) : (l ++ m).getD i z = l.getD i z := by
  rw [List.getD_eq_getElem?_getD, List.getElem?_append_left h, ← List.getD_eq_getElem?_getD]
/-- items of what is drawn -/
theorem pk {ds : List Int} {m : Int} (h : ∀ x ∈ ds, 0 ≤ x ∧ x < m) (i : Nat) (hi : i < ds.length) : 0 ≤ ds.getD i 0 ∧ ds.getD i 0 < m := h _ (gd_mem hi)
end PV
namespace PV
open PySem
theorem LpR_rng {σ τ : Type} {S : σ → Int → Prop} {F : σ → Int → Stp σ τ} {n : Int} {s0 : σ} (I : Int → σ → Prop) (h0 : I 0 s0) (hn : 0 ≤ n) (h : ∀ k s, 0 ≤ k → k < n → I k s → S s k ∧ ∃ s', F s k = .nx s' ∧ I (k + 1) s') : LpR S F (rngI 0 n) s0 ∧ ∃ s, loopR F (rngI 0 n) s0 = .nx s ∧ I n s := by
  have key : ∀ (j : Nat) (lo : Int) (s : σ), 0 ≤ lo → (n - lo).toNat = j → lo ≤ n → I lo s → LpR S F (rngI lo n) s ∧ ∃ s', loopR F (rngI lo n) s = .nx s' ∧ I n s' := by
    intro j
    induction j with
    | zero =>
      intro lo s _ e hl hi
      have : lo = n := by omega
      subst this
      rw [rngI_nil (Int.le_refl _)]
      exact ⟨.nil, s, rfl, hi⟩
    | succ j ih =>
      intro lo s h0 e hl hi
      rw [rngI_cons (by omega)]
      obtain ⟨h1, s', h2, h3⟩ := h lo s h0 (by omega) hi
      obtain ⟨h4, s'', h5, h6⟩ := ih (lo + 1) s' (by omega) (by omega) (by omega) h3
      refine ⟨.cons h1 (fun s3 e => by rw [h2] at e; cases e; exact h4), s'', ?_, h6⟩
      · rw [loopR_cons, h2]; exact h5
  exact key _ 0 s0 (Int.le_refl _) rfl hn h0
theorem ok_forI {β σ τ α : Type} {Q : β → Prop} {xs : List α} {F : σ → α → Stp σ τ} {Sb : σ → α → Prop} {s0 : σ} {K : τ → β} {G : σ → β} {S2 : σ → Prop} (I : σ → Prop) (h : LpR Sb F xs s0 ∧ ∃ s, loopR F xs s0 = .nx s ∧ I s) (k : ∀ s, I s → Ok (S2 s) (G s) Q) : Ok (LpR Sb F xs s0 ∧ ∀ s, loopR F xs s0 = .nx s → S2 s) ((loopR F xs s0).el K G) Q := by
  obtain ⟨h1, s, h2, h3⟩ := h
  exact ok_forR h1 h2 (k s h3)
/-- a walk that finds nothing amiss -/
theorem ok_walk {β τ α : Type} {Q : β → Prop} {xs : List α} {F : Unit → α → Stp Unit τ} {Sb : Unit → α → Prop} {K : τ → β} {G : Unit → β} {S2 : Unit → Prop} (h : ∀ x ∈ xs, Sb () x ∧ F () x = .nx ()) (k : Ok (S2 ()) (G ()) Q) : Ok (LpR Sb F xs () ∧ ∀ s, loopR F xs () = .nx s → S2 s) ((loopR F xs ()).el K G) Q :=
  ok_forR (ok_all h).1 (ok_all h).2 k
theorem ok_walk0 {β τ α : Type} {Q : β → Prop} {xs : List α} {F : Unit → α → Stp Unit τ} {Sb : Unit → α → Prop} {K : τ → β} {G : Unit → β} (h : ∀ x ∈ xs, Sb () x ∧ F () x = .nx ()) (k : Q (G ())) : Ok (LpR Sb F xs ()) ((loopR F xs ()).el K G) Q :=
  ok_forR0 (ok_all h).1 (ok_all h).2 k
theorem if_no {α : Type} {b : Bool} {x y : α} (h : b = false) : (if b = true then x else y) = y := by rw [h]; rfl
theorem rfl_eq {α : Type} [DecidableEq α] {a b : α} (h : a = b) : (!decide (a = b)) = false := by rw [decide_eq_true h]; rfl
theorem len_f {α : Type} {xs : List α} {p : α → Bool} {n : Nat} (h : xs.length ≤ n) : (xs.filter p).length ≤ n := Nat.le_trans (List.length_filter_le _ _) h
end PV
namespace PV
open PySem
theorem wh_ok {σ τ : Type} {St Sb : σ → Prop} {t : σ → Bool} {F : σ → Stp σ τ} {n : Nat} {s0 : σ} (I : σ → Prop) (μ : σ → Nat) (h0 : I s0) (hn : μ s0 < n) (h : ∀ s, I s → St s ∧ (t s = true → Sb s ∧ ∃ s', F s = .nx s' ∧ I s' ∧ μ s' < μ s)) : whS St Sb t F n s0 ∧ ∃ s, whR t F n s0 = .nx s ∧ I s ∧ t s = false := by
  induction n generalizing s0 with
  | zero => exact absurd hn (Nat.not_lt_zero _)
  | succ n ih =>
    obtain ⟨h1, h2⟩ := h s0 h0
    by_cases c : t s0 = true
    · obtain ⟨h3, s', h4, h5, h6⟩ := h2 c
      obtain ⟨g1, s, g2, g3⟩ := ih h5 (by omega)
      refine ⟨.step h1 (fun _ => h3) (fun _ s2 e => by rw [h4] at e; cases e; exact g1), s, ?_, g3⟩
      rw [whR_succ, if_pos c, h4]; exact g2
    · refine ⟨.step h1 (fun q => absurd q c) (fun q => absurd q c), s0, ?_, h0, by simpa using c⟩
      rw [whR_succ, if_neg c]
theorem ok_wh {β σ τ : Type} {Q : β → Prop} {St Sb : σ → Prop} {t : σ → Bool} {F : σ → Stp σ τ} {n : Nat} {s0 : σ} {K : τ → β} {G : σ → β} {S2 : σ → Prop} (I : σ → Prop) (h : whS St Sb t F n s0 ∧ ∃ s, whR t F n s0 = .nx s ∧ I s ∧ t s = false) (k : ∀ s, I s → t s = false → Ok (S2 s) (G s) Q) : Ok (whS St Sb t F n s0 ∧ ∀ s, whR t F n s0 = .nx s → S2 s) ((whR t F n s0).el K G) Q := by
  obtain ⟨h1, s, h2, h3, h4⟩ := h
  refine ⟨⟨h1, fun s' e => ?_⟩, ?_⟩
  · rw [h2] at e; cases e; exact (k s h3 h4).1
  · rw [h2]; exact (k s h3 h4).2
theorem ok_wh0 {β σ τ : Type} {Q : β → Prop} {St Sb : σ → Prop} {t : σ → Bool} {F : σ → Stp σ τ} {n : Nat} {s0 : σ} {K : τ → β} {G : σ → β} (I : σ → Prop) (h : whS St Sb t F n s0 ∧ ∃ s, whR t F n s0 = .nx s ∧ I s ∧ t s = false) (k : ∀ s, I s → t s = false → Q (G s)) : Ok (whS St Sb t F n s0) ((whR t F n s0).el K G) Q := by
  obtain ⟨h1, s, h2, h3, h4⟩ := h
  exact ⟨h1, by rw [h2]; exact k s h3 h4⟩
/-- a search that finds -/
theorem ok_find {β τ α : Type} {Q : β → Prop} {xs : List α} {F : Unit → α → Stp Unit τ} {Sb : Unit → α → Prop} {K : τ → β} {G : Unit → β} (p : α → Bool) (f : α → τ) (hS : ∀ x ∈ xs, Sb () x) (hF : ∀ x, F () x = if p x = true then .rt (f x) else .nx ()) (hex : ∃ x ∈ xs, p x = true) (k : ∀ x ∈ xs, p x = true → Q (K (f x))) : Ok (LpR Sb F xs ()) ((loopR F xs ()).el K G) Q := by
  refine ⟨LpR_all hS, ?_⟩
  rw [loopR_find p f hF]
  cases c : xs.find? p with
  | none =>
    obtain ⟨x, hx, hp⟩ := hex
    exact absurd hp (List.find?_eq_none.mp c x hx)
  | some x => exact k x (List.mem_of_find?_eq_some c) (List.find?_some c)
theorem inc_of {xs : List Int} (h1 : List.Pairwise (fun a b => a ≤ b) xs) (h2 : xs.Nodup) : ∀ k : Nat, k + 1 < xs.length → xs.getD k 0 < xs.getD (k + 1) 0 := by
  intro k hk
  rw [List.getD_eq_getElem?_getD, List.getD_eq_getElem?_getD, List.getElem?_eq_getElem (by omega), List.getElem?_eq_getElem hk, Option.getD_some, Option.getD_some]
  have a := List.pairwise_iff_getElem.mp h1 k (k + 1) (by omega) hk (by omega)
  have b := List.pairwise_iff_getElem.mp h2 k (k + 1) (by omega) hk (by omega)
  omega
theorem sum_perm' {a b : List Int} (h : a.Perm b) : a.sum = b.sum := by
  induction h with
  | nil => rfl
  | cons x _ ih => rw [List.sum_cons, List.sum_cons, ih]
  | swap x y l => simp only [List.sum_cons]; omega
  | trans _ _ h1 h2 => exact h1.trans h2
end PV
namespace PV
open PySem
/-- a loop whose turns all go on -/
theorem LpR_step {σ τ α : Type} {S : σ → α → Prop} {F : σ → α → Stp σ τ} {xs : List α} {s0 : σ} (G : σ → α → σ) (h : ∀ x ∈ xs, ∀ s, S s x ∧ F s x = .nx (G s x)) : LpR S F xs s0 ∧ ∃ s, loopR F xs s0 = .nx s ∧ s = xs.foldl G s0 := by
  induction xs generalizing s0 with
  | nil => exact ⟨.nil, s0, rfl, rfl⟩
  | cons x r ih =>
    obtain ⟨h1, h2⟩ := h x (List.mem_cons_self ..) s0
    obtain ⟨i1, s, i2, i3⟩ := ih (s0 := G s0 x) (fun y hy => h y (List.mem_cons_of_mem _ hy))
    refine ⟨.cons h1 (fun s' e => by rw [h2] at e; cases e; exact i1), s, ?_, i3⟩
    rw [loopR_cons, h2]; exact i2
theorem ok_forI0 {β σ τ α : Type} {Q : β → Prop} {xs : List α} {F : σ → α → Stp σ τ} {Sb : σ → α → Prop} {s0 : σ} {K : τ → β} {G : σ → β} (I : σ → Prop) (h : LpR Sb F xs s0 ∧ ∃ s, loopR F xs s0 = .nx s ∧ I s) (k : ∀ s, I s → Q (G s)) : Ok (LpR Sb F xs s0) ((loopR F xs s0).el K G) Q := by
  obtain ⟨h1, s, h2, h3⟩ := h
  exact ok_forR0 h1 h2 (k s h3)
theorem fold_ge {α : Type} (c : α → Int) (hc : ∀ x, 0 ≤ c x) : ∀ (xs : List α) (g : Int), g ≤ xs.foldl (fun s x => s + c x) g
  | [], g => Int.le_refl _
  | x :: r, g => by
    have := fold_ge c hc r (g + c x)
    have := hc x
    rw [List.foldl_cons]
    omega
end PV
namespace PV
open PySem
theorem ok_elN {β σ τ : Type} {Q : β → Prop} {r : Lp σ τ} {s : σ} {K : τ → β} {G : σ → β} {S2 : σ → Prop} (h : r = .nx s) (k : Ok (S2 s) (G s) Q) : Ok (∀ s, r = .nx s → S2 s) (r.el K G) Q := by
  subst h
  exact ⟨fun s' e => by cases e; exact k.1, k.2⟩
end PV
end
section
set_option Elab.async false
set_option linter.all false
set_option maxRecDepth 100000
set_option maxHeartbeats 4000000
namespace Law
open PySem PySem.Spec PyProof.Rows L2 PV
def top (i : Nat) : Stmt := PySem.Challenge.pw_ropesbear_k68_whole_most_years_on_saddle.main.body.getD i (.Pass ⟨0, 0, 0, 0⟩)
structure Bi (mg : Str → Option Value) : Prop where
  l_all : mg "all" = none
  l_any : mg "any" = none
  l_bool : mg "bool" = none
  l_int : mg "int" = none
  l_isinstance : mg "isinstance" = none
  l_len : mg "len" = none
  l_list : mg "list" = none
  l_max : mg "max" = none
  l_min : mg "min" = none
  l_range : mg "range" = none
  l_sorted : mg "sorted" = none
  l_str : mg "str" = none
  l_sum : mg "sum" = none
  l_tuple : mg "tuple" = none
abbrev s_law_draws : Stmt := top 19
abbrev N_law_draws : List Str := ["script", "at", "count", "cell", "great", "found", "k", "mixed"]
theorem sc_law_draws : FnScope N_law_draws ["script", "at", "count"] (defScope s_law_draws) := ⟨rfl, rfl, rfl, by decide +kernel, rfl, by decide +kernel, by decide +kernel⟩
noncomputable def l_law_draws_0 : Evn → RS :=
  (sIf (mT (mGet 4))
    (sThen (sApp 5 (m2 pMod (mCall bInt (mCons (mGet 3) mNil)) (mC (.int 5040))))
    (sSet 3 (m2 pDiv (mGet 3) (mC (.int 5040)))))
    (sThen (sSet 7 (m2 pMod (mCall bInt (mCons (m2 pAdd (m2 pAdd (m2 pMul (mGet 3) (mC (.int 69621))) (m2 pMul (m2 pAdd (mGet 6) (m2 pMul (mC (.int 64)) (mGet 1))) (mC (.int 48271)))) (mC (.int 13))) mNil)) (mC (.int 2147483647))))
    (sThen (sSet 7 (m2 pMod (mCall bInt (mCons (m2 pAdd (m2 pAdd (m2 pMul (mGet 7) (mGet 7)) (m2 pMul (mGet 7) (mC (.int 40014)))) (m2 pMul (mGet 6) (mC (.int 7919)))) mNil)) (mC (.int 2147483563))))
    (sApp 5 (m2 pMod (mCall bInt (mCons (m2 pDiv (mGet 7) (mC (.int 64))) mNil)) (mC (.int 5040)))))))
theorem u_law_draws_0 (ρ : Evn) : l_law_draws_0 ρ = (sIf (mT (mGet 4))
    (sThen (sApp 5 (m2 pMod (mCall bInt (mCons (mGet 3) mNil)) (mC (.int 5040))))
    (sSet 3 (m2 pDiv (mGet 3) (mC (.int 5040)))))
    (sThen (sSet 7 (m2 pMod (mCall bInt (mCons (m2 pAdd (m2 pAdd (m2 pMul (mGet 3) (mC (.int 69621))) (m2 pMul (m2 pAdd (mGet 6) (m2 pMul (mC (.int 64)) (mGet 1))) (mC (.int 48271)))) (mC (.int 13))) mNil)) (mC (.int 2147483647))))
    (sThen (sSet 7 (m2 pMod (mCall bInt (mCons (m2 pAdd (m2 pAdd (m2 pMul (mGet 7) (mGet 7)) (m2 pMul (mGet 7) (mC (.int 40014)))) (m2 pMul (mGet 6) (mC (.int 7919)))) mNil)) (mC (.int 2147483563))))
    (sApp 5 (m2 pMod (mCall bInt (mCons (m2 pDiv (mGet 7) (mC (.int 64))) mNil)) (mC (.int 5040))))))) ρ := nr rfl
noncomputable def b_law_draws : Evn → RS :=
  (sThen (sSet 3 (mC (.int 0)))
  (sThen (sIf (mB (m2 pLt (mGet 1) (mCall bLen (mCons (mGet 0) mNil))))
    (sSet 3 (mCall bInt (mCons (m2 pIdx (mGet 0) (mGet 1)) mNil)))
    sNx)
  (sThen (sSet 4 (m2 pGe (mGet 3) (m2 pPow (mC (.int 10)) (mC (.int 18)))))
  (sThen (sSetO 5 (mDsp mNil))
  (sThen (sFor (mWk rng1 (mCons (mGet 2) mNil)) (gN 6) l_law_draws_0)
  (fun ρ => (sRet (mGet 5)) (freeze 5 ρ)))))))
noncomputable def m_law_draws : List PyData → RE PyData := fnM 3 8 b_law_draws
theorem ok_law_draws {P : Program} {w : World} {K : PySem.W.Frag} {mg : Str → Option Value} {base : Heap} {f : Addr} {fd : FuncData} (F : FnP K "_law_draws" s_law_draws f fd) (gl : mg "_law_draws" = some (.ref f)) (bi : Bi mg) : Cal P w K mg base 1 "_law_draws" ["script", "at", "count"] m_law_draws :=
  Cal.of (k := 0) F gl sc_law_draws (fun _ _ _ _ _ _ us hl => match us, hl with | [_, _, _], _ => rfl) fun cdv A outer s H E F0 hr => by
    have nd := sc_law_draws.nd; have tk := takesD (P := P) (w := w) (K := K) (mg := mg) (base := base) (N := N_law_draws) (qual := "_law_draws") (scope := defScope s_law_draws) (f := f) (cdv := cdv) (A := A) (outer := outer) (s := s) (H := H) (E := E); have po := passes_of (X := cxOf (L2.CX P w) P w K mg base N_law_draws "_law_draws" (defScope s_law_draws) f cdv A outer s H E) rfl; exact
    (vs_cons (vs_set 3 nd ve_int)
  (vs_cons (vs_if (vt_cmp opv_lt (ve_var 1) (ve_callB cb_len rfl bi.l_len rfl (va_cons (ve_var 0) va_nil))) (vs_one (vs_set 3 nd (ve_callTy cb_int rfl bi.l_int rfl (va_cons (ve_ix (ve_var 0) (ve_var 1)) va_nil)))) vs_nil)
  (vs_cons (vs_set 4 nd (ve_cmp opv_ge (ve_var 3) (ve_op opv_pow ve_int ve_int)))
  (vs_cons (vs_setO 5 nd (vf_lst va_nil))
  (vs_cons (vs_for po rfl (vi_range1 rfl bi.l_range (va_cons (ve_var 2) va_nil)) (vg_name 6 nd) (vs_one (vs_if (vt_truth (ve_var 4)) (vs_cons (vs_append 5 (ve_op opv_mod (ve_callTy cb_int rfl bi.l_int rfl (va_cons (ve_var 3) va_nil)) ve_int))
    (vs_one (vs_set 3 nd (ve_op opv_div (ve_var 3) ve_int)))) (vs_cons (vs_set 7 nd (ve_op opv_mod (ve_callTy cb_int rfl bi.l_int rfl (va_cons (ve_op opv_add (ve_op opv_add (ve_op opv_mul (ve_var 3) ve_int) (ve_op opv_mul (ve_op opv_add (ve_var 6) (ve_op opv_mul ve_int (ve_var 1))) ve_int)) ve_int) va_nil)) ve_int))
    (vs_cons (vs_set 7 nd (ve_op opv_mod (ve_callTy cb_int rfl bi.l_int rfl (va_cons (ve_op opv_add (ve_op opv_add (ve_op opv_mul (ve_var 7) (ve_var 7)) (ve_op opv_mul (ve_var 7) ve_int)) (ve_op opv_mul (ve_var 6) ve_int)) va_nil)) ve_int))
    (vs_one (vs_append 5 (ve_op opv_mod (ve_callTy cb_int rfl bi.l_int rfl (va_cons (ve_op opv_div (ve_var 7) ve_int) va_nil)) ve_int))))))))
  (vs_one (vs_freeze 5 (vs_ret (ve_var 5)))))))))
abbrev s_law_track : Stmt := top 21
abbrev N_law_track : List Str := ["script", "at", "wide", "picks", "spare", "saddles", "place", "k", "left"]
theorem sc_law_track : FnScope N_law_track ["script", "at", "wide"] (defScope s_law_track) := ⟨rfl, rfl, rfl, by decide +kernel, rfl, by decide +kernel, by decide +kernel⟩
noncomputable def l_law_track_0 : Evn → RS :=
  (sThen (sApp 5 (mSeq mTup (mCons (mGet 6) (mCons (m2 pAdd (mC (.int 1)) (m2 pMod (m2 pIdx (mGet 3) (m2 pAdd (mC (.int 4)) (mGet 7))) (m2 pIdx (mSeq mLst (mCons (mC (.int 1)) (mCons (mC (.int 3)) (mCons (mC (.int 6)) (mCons (mC (.int 9)) mNil))))) (m2 pMod (m2 pIdx (mGet 3) (mC (.int 7))) (mC (.int 4)))))) mNil))))
  (sSet 6 (m2 pAdd (m2 pAdd (m2 pAdd (mGet 6) (m2 pIdx (mIxO 5 (mGet 7)) (mC (.int 1)))) (mGet 4)) (m2 pMul (m2 pMod (m2 pIdx (mGet 3) (m2 pAdd (mC (.int 8)) (mGet 7))) (mC (.int 3))) (m2 pMod (m2 pIdx (mGet 3) (m2 pAdd (mC (.int 8)) (mGet 7))) (mC (.int 4)))))))
theorem u_law_track_0 (ρ : Evn) : l_law_track_0 ρ = (sThen (sApp 5 (mSeq mTup (mCons (mGet 6) (mCons (m2 pAdd (mC (.int 1)) (m2 pMod (m2 pIdx (mGet 3) (m2 pAdd (mC (.int 4)) (mGet 7))) (m2 pIdx (mSeq mLst (mCons (mC (.int 1)) (mCons (mC (.int 3)) (mCons (mC (.int 6)) (mCons (mC (.int 9)) mNil))))) (m2 pMod (m2 pIdx (mGet 3) (mC (.int 7))) (mC (.int 4)))))) mNil))))
  (sSet 6 (m2 pAdd (m2 pAdd (m2 pAdd (mGet 6) (m2 pIdx (mIxO 5 (mGet 7)) (mC (.int 1)))) (mGet 4)) (m2 pMul (m2 pMod (m2 pIdx (mGet 3) (m2 pAdd (mC (.int 8)) (mGet 7))) (mC (.int 3))) (m2 pMod (m2 pIdx (mGet 3) (m2 pAdd (mC (.int 8)) (mGet 7))) (mC (.int 4))))))) ρ := nr rfl
noncomputable def l_law_track_1 : Evn → RS :=
  (sApp 8 (m2 pMul (m2 pMod (m2 pIdx (mGet 3) (m2 pAdd (mC (.int 12)) (m2 pMod (mGet 7) (mC (.int 48))))) (m2 pIdx (mSeq mLst (mCons (mC (.int 2)) (mCons (mC (.int 4)) (mCons (mC (.int 12)) (mCons (mC (.int 1000)) mNil))))) (m2 pMod (m2 pDiv (m2 pIdx (mGet 3) (mC (.int 7))) (mC (.int 4))) (mC (.int 4))))) (mCall bInt (mCons (m2 pGt (m2 pMod (m2 pIdx (mGet 3) (m2 pMod (m2 pMul (mC (.int 7)) (mGet 7)) (mC (.int 60)))) (mC (.int 9))) (mC (.int 0))) mNil))))
theorem u_law_track_1 (ρ : Evn) : l_law_track_1 ρ = (sApp 8 (m2 pMul (m2 pMod (m2 pIdx (mGet 3) (m2 pAdd (mC (.int 12)) (m2 pMod (mGet 7) (mC (.int 48))))) (m2 pIdx (mSeq mLst (mCons (mC (.int 2)) (mCons (mC (.int 4)) (mCons (mC (.int 12)) (mCons (mC (.int 1000)) mNil))))) (m2 pMod (m2 pDiv (m2 pIdx (mGet 3) (mC (.int 7))) (mC (.int 4))) (mC (.int 4))))) (mCall bInt (mCons (m2 pGt (m2 pMod (m2 pIdx (mGet 3) (m2 pMod (m2 pMul (mC (.int 7)) (mGet 7)) (mC (.int 60)))) (mC (.int 9))) (mC (.int 0))) mNil)))) ρ := nr rfl
noncomputable def b_law_track : Evn → RS :=
  (sThen (sSet 3 (mSeq m_law_draws (mCons (mGet 0) (mCons (mGet 1) (mCons (mC (.int 60)) mNil)))))
  (sThen (sSet 4 (m2 pMod (m2 pIdx (mGet 3) (mC (.int 0))) (m2 pIdx (mSeq mLst (mCons (mC (.int 1)) (mCons (mC (.int 3)) (mCons (mC (.int 5)) (mCons (mGet 2) mNil))))) (m2 pMod (m2 pIdx (mGet 3) (mC (.int 1))) (mC (.int 4))))))
  (sThen (sSetO 5 (mDsp mNil))
  (sThen (sSet 6 (m2 pMod (m2 pIdx (mGet 3) (mC (.int 2))) (mC (.int 3))))
  (sThen (sFor (mWk rng1 (mCons (m2 pAdd (mC (.int 1)) (m2 pMod (m2 pIdx (mGet 3) (mC (.int 3))) (mC (.int 3)))) mNil)) (gN 7) l_law_track_0)
  (sThen (sSetO 8 (mDsp mNil))
  (sThen (sFor (mWk rng1 (mCons (m2 pAdd (mGet 6) (m2 pMod (m2 pIdx (mGet 3) (mC (.int 11))) (mC (.int 4)))) mNil)) (gN 7) l_law_track_1)
  (fun ρ => (fun ρ => (sRet (mSeq mTup (mCons (mGet 5) (mCons (mGet 4) (mCons (mGet 8) mNil))))) (freeze 8 ρ)) (freeze 5 ρ)))))))))
noncomputable def m_law_track : List PyData → RE PyData := fnM 3 9 b_law_track
theorem ok_law_track {P : Program} {w : World} {K : PySem.W.Frag} {mg : Str → Option Value} {base : Heap} {f : Addr} {fd : FuncData} (F : FnP K "_law_track" s_law_track f fd) (gl : mg "_law_track" = some (.ref f)) (bi : Bi mg) (C_law_draws : Cal P w K mg base 1 "_law_draws" ["script", "at", "count"] m_law_draws) : Cal P w K mg base 2 "_law_track" ["script", "at", "wide"] m_law_track :=
  Cal.of (k := 1) F gl sc_law_track (fun _ _ _ _ _ _ us hl => match us, hl with | [_, _, _], _ => rfl) fun cdv A outer s H E F0 hr => by
    have nd := sc_law_track.nd; have tk := takesD (P := P) (w := w) (K := K) (mg := mg) (base := base) (N := N_law_track) (qual := "_law_track") (scope := defScope s_law_track) (f := f) (cdv := cdv) (A := A) (outer := outer) (s := s) (H := H) (E := E); have po := passes_of (X := cxOf (L2.CX P w) P w K mg base N_law_track "_law_track" (defScope s_law_track) f cdv A outer s H E) rfl; exact
    (vs_cons (vs_set 3 nd (ve_cal C_law_draws hr tk (va_cons (ve_var 0) (va_cons (ve_var 1) (va_cons ve_int va_nil)))))
  (vs_cons (vs_set 4 nd (ve_op opv_mod (ve_ix (ve_var 3) ve_int) (ve_ix (ve_lst (va_cons ve_int (va_cons ve_int (va_cons ve_int (va_cons (ve_var 2) va_nil))))) (ve_op opv_mod (ve_ix (ve_var 3) ve_int) ve_int))))
  (vs_cons (vs_setO 5 nd (vf_lst va_nil))
  (vs_cons (vs_set 6 nd (ve_op opv_mod (ve_ix (ve_var 3) ve_int) ve_int))
  (vs_cons (vs_for po rfl (vi_range1 rfl bi.l_range (va_cons (ve_op opv_add ve_int (ve_op opv_mod (ve_ix (ve_var 3) ve_int) ve_int)) va_nil)) (vg_name 7 nd) (vs_cons (vs_append 5 (ve_tup (va_cons (ve_var 6) (va_cons (ve_op opv_add ve_int (ve_op opv_mod (ve_ix (ve_var 3) (ve_op opv_add ve_int (ve_var 7))) (ve_ix (ve_lst (va_cons ve_int (va_cons ve_int (va_cons ve_int (va_cons ve_int va_nil))))) (ve_op opv_mod (ve_ix (ve_var 3) ve_int) ve_int)))) va_nil))))
  (vs_one (vs_set 6 nd (ve_op opv_add (ve_op opv_add (ve_op opv_add (ve_var 6) (ve_ix (ve_ixO 5 (ve_var 7)) ve_int)) (ve_var 4)) (ve_op opv_mul (ve_op opv_mod (ve_ix (ve_var 3) (ve_op opv_add ve_int (ve_var 7))) ve_int) (ve_op opv_mod (ve_ix (ve_var 3) (ve_op opv_add ve_int (ve_var 7))) ve_int)))))))
  (vs_cons (vs_setO 8 nd (vf_lst va_nil))
  (vs_cons (vs_for po rfl (vi_range1 rfl bi.l_range (va_cons (ve_op opv_add (ve_var 6) (ve_op opv_mod (ve_ix (ve_var 3) ve_int) ve_int)) va_nil)) (vg_name 7 nd) (vs_one (vs_append 8 (ve_op opv_mul (ve_op opv_mod (ve_ix (ve_var 3) (ve_op opv_add ve_int (ve_op opv_mod (ve_var 7) ve_int))) (ve_ix (ve_lst (va_cons ve_int (va_cons ve_int (va_cons ve_int (va_cons ve_int va_nil))))) (ve_op opv_mod (ve_op opv_div (ve_ix (ve_var 3) ve_int) ve_int) ve_int))) (ve_callTy cb_int rfl bi.l_int rfl (va_cons (ve_cmp opv_gt (ve_op opv_mod (ve_ix (ve_var 3) (ve_op opv_mod (ve_op opv_mul ve_int (ve_var 7)) ve_int)) ve_int) ve_int) va_nil))))))
  (vs_one (vs_freeze 5 (vs_freeze 8 (vs_ret (ve_tup (va_cons (ve_var 5) (va_cons (ve_var 4) (va_cons (ve_var 8) va_nil)))))))))))))))
abbrev s_window : Stmt := top 8
abbrev N_window : List Str := ["track", "piece", "saddles", "spare", "_", "place", "width", "rank"]
theorem sc_window : FnScope N_window ["track", "piece"] (defScope s_window) := ⟨rfl, rfl, rfl, by decide +kernel, rfl, by decide +kernel, by decide +kernel⟩
noncomputable def l_window_0 : Evn → RS :=
  (sThen (sSet 7 (m2 pSub (mGet 1) (mGet 5)))
  (sIf (mB (mChain pLe pLt (mC (.int 0)) (mGet 7) (m2 pAdd (mGet 6) (mGet 3))))
    (sRet (mSeq mTup (mCons (mCall bMax (mCons (mC (.int 0)) (mCons (m2 pAdd (m2 pSub (mGet 7) (mGet 6)) (mC (.int 1))) mNil))) (mCons (mCall bMin (mCons (mGet 3) (mCons (mGet 7) mNil))) mNil))))
    sNx))
theorem u_window_0 (ρ : Evn) : l_window_0 ρ = (sThen (sSet 7 (m2 pSub (mGet 1) (mGet 5)))
  (sIf (mB (mChain pLe pLt (mC (.int 0)) (mGet 7) (m2 pAdd (mGet 6) (mGet 3))))
    (sRet (mSeq mTup (mCons (mCall bMax (mCons (mC (.int 0)) (mCons (m2 pAdd (m2 pSub (mGet 7) (mGet 6)) (mC (.int 1))) mNil))) (mCons (mCall bMin (mCons (mGet 3) (mCons (mGet 7) mNil))) mNil))))
    sNx)) ρ := nr rfl
noncomputable def b_window : Evn → RS :=
  (sThen (sAsg (mGet 0) (gT 3 (gC (gN 2) (gC (gN 3) (gC (gN 4) gE)))))
  (sThen (sFor (mItems (mGet 2)) (gT 2 (gC (gN 5) (gC (gN 6) gE))) l_window_0)
  (sRet (mC .none))))
noncomputable def m_window : List PyData → RE PyData := fnM 2 8 b_window
theorem ok_window {P : Program} {w : World} {K : PySem.W.Frag} {mg : Str → Option Value} {base : Heap} {f : Addr} {fd : FuncData} (F : FnP K "window" s_window f fd) (gl : mg "window" = some (.ref f)) (bi : Bi mg) : Cal P w K mg base 1 "window" ["track", "piece"] m_window :=
  Cal.of (k := 0) F gl sc_window (fun _ _ _ _ _ _ us hl => match us, hl with | [_, _], _ => rfl) fun cdv A outer s H E F0 hr => by
    have nd := sc_window.nd; have tk := takesD (P := P) (w := w) (K := K) (mg := mg) (base := base) (N := N_window) (qual := "window") (scope := defScope s_window) (f := f) (cdv := cdv) (A := A) (outer := outer) (s := s) (H := H) (E := E); have po := passes_of (X := cxOf (L2.CX P w) P w K mg base N_window "window" (defScope s_window) f cdv A outer s H E) rfl; exact
    (vs_cons (vs_asg (ve_var 0) (vg_tup rfl (vgs_cons (vg_name 2 nd) (vgs_cons (vg_name 3 nd) (vgs_cons (vg_name 4 nd) vgs_nil)))))
  (vs_cons (vs_for po rfl (vi_items (ve_var 2)) (vg_tup rfl (vgs_cons (vg_name 5 nd) (vgs_cons (vg_name 6 nd) vgs_nil))) (vs_cons (vs_set 7 nd (ve_op opv_sub (ve_var 1) (ve_var 5)))
  (vs_one (vs_if (vt_chain opv_le opv_lt ve_int (ve_var 7) (ve_op opv_add (ve_var 6) (ve_var 3))) (vs_one (vs_ret (ve_tup (va_cons (ve_callB (cb_max rfl) rfl bi.l_max rfl (va_cons ve_int (va_cons (ve_op opv_add (ve_op opv_sub (ve_var 7) (ve_var 6)) ve_int) va_nil))) (va_cons (ve_callB (cb_min rfl) rfl bi.l_min rfl (va_cons (ve_var 3) (va_cons (ve_var 7) va_nil))) va_nil))))) vs_nil))))
  (vs_one (vs_ret ve_non))))
abbrev s_windows : Stmt := top 9
abbrev N_windows : List Str := ["track", "found", "piece", "some"]
theorem sc_windows : FnScope N_windows ["track"] (defScope s_windows) := ⟨rfl, rfl, rfl, by decide +kernel, rfl, by decide +kernel, by decide +kernel⟩
noncomputable def l_windows_0 : Evn → RS :=
  (sThen (sSet 3 (mSeq m_window (mCons (mGet 0) (mCons (mGet 2) mNil))))
  (sIf (mB (m2 pIsNotN (mGet 3) (mC .none)))
    (sApp 1 (mSeq mTup (mCons (mGet 2) (mCons (m2 pIdx (mGet 3) (mC (.int 0))) (mCons (m2 pIdx (mGet 3) (mC (.int 1))) mNil)))))
    sNx))
theorem u_windows_0 (ρ : Evn) : l_windows_0 ρ = (sThen (sSet 3 (mSeq m_window (mCons (mGet 0) (mCons (mGet 2) mNil))))
  (sIf (mB (m2 pIsNotN (mGet 3) (mC .none)))
    (sApp 1 (mSeq mTup (mCons (mGet 2) (mCons (m2 pIdx (mGet 3) (mC (.int 0))) (mCons (m2 pIdx (mGet 3) (mC (.int 1))) mNil)))))
    sNx)) ρ := nr rfl
noncomputable def b_windows : Evn → RS :=
  (sThen (sSetO 1 (mDsp mNil))
  (sThen (sFor (mWk rng1 (mCons (mCall bLen (mCons (m2 pIdx (mGet 0) (mC (.int 2))) mNil)) mNil)) (gN 2) l_windows_0)
  (fun ρ => (sRet (mGet 1)) (freeze 1 ρ))))
noncomputable def m_windows : List PyData → RE PyData := fnM 1 4 b_windows
theorem ok_windows {P : Program} {w : World} {K : PySem.W.Frag} {mg : Str → Option Value} {base : Heap} {f : Addr} {fd : FuncData} (F : FnP K "windows" s_windows f fd) (gl : mg "windows" = some (.ref f)) (bi : Bi mg) (C_window : Cal P w K mg base 1 "window" ["track", "piece"] m_window) : Cal P w K mg base 2 "windows" ["track"] m_windows :=
  Cal.of (k := 1) F gl sc_windows (fun _ _ _ _ _ _ us hl => match us, hl with | [_], _ => rfl) fun cdv A outer s H E F0 hr => by
    have nd := sc_windows.nd; have tk := takesD (P := P) (w := w) (K := K) (mg := mg) (base := base) (N := N_windows) (qual := "windows") (scope := defScope s_windows) (f := f) (cdv := cdv) (A := A) (outer := outer) (s := s) (H := H) (E := E); have po := passes_of (X := cxOf (L2.CX P w) P w K mg base N_windows "windows" (defScope s_windows) f cdv A outer s H E) rfl; exact
    (vs_cons (vs_setO 1 nd (vf_lst va_nil))
  (vs_cons (vs_for po rfl (vi_range1 rfl bi.l_range (va_cons (ve_callB cb_len rfl bi.l_len rfl (va_cons (ve_ix (ve_var 0) ve_int) va_nil)) va_nil)) (vg_name 2 nd) (vs_cons (vs_set 3 nd (ve_cal C_window hr tk (va_cons (ve_var 0) (va_cons (ve_var 2) va_nil))))
  (vs_one (vs_if (vt_cmp opv_isnot (ve_var 3) ve_non) (vs_one (vs_append 1 (ve_tup (va_cons (ve_var 2) (va_cons (ve_ix (ve_var 3) ve_int) (va_cons (ve_ix (ve_var 3) ve_int) va_nil)))))) vs_nil))))
  (vs_one (vs_freeze 1 (vs_ret (ve_var 1))))))
abbrev s_least_needs : Stmt := top 13
abbrev N_least_needs : List Str := ["track", "_", "spare", "left", "all_windows", "need", "k", "piece", "first", "last"]
theorem sc_least_needs : FnScope N_least_needs ["track"] (defScope s_least_needs) := ⟨rfl, rfl, rfl, by decide +kernel, rfl, by decide +kernel, by decide +kernel⟩
noncomputable def l_least_needs_0 : Evn → RS :=
  (sApp 5 (mCall bMin (mCons (mL (mLc (mItems (mGet 4)) (gT 3 (gC (gN 7) (gC (gN 8) (gC (gN 9) gE)))) (mB (mChain pLe pLe (mGet 8) (mGet 6) (mGet 9))) (m2 pAdd (mIxO 5 (mGet 8)) (m2 pIdx (mGet 3) (mGet 7))) [7, 8, 9])) mNil)))
theorem u_least_needs_0 (ρ : Evn) : l_least_needs_0 ρ = (sApp 5 (mCall bMin (mCons (mL (mLc (mItems (mGet 4)) (gT 3 (gC (gN 7) (gC (gN 8) (gC (gN 9) gE)))) (mB (mChain pLe pLe (mGet 8) (mGet 6) (mGet 9))) (m2 pAdd (mIxO 5 (mGet 8)) (m2 pIdx (mGet 3) (mGet 7))) [7, 8, 9])) mNil))) ρ := nr rfl
noncomputable def b_least_needs : Evn → RS :=
  (sThen (sAsg (mGet 0) (gT 3 (gC (gN 1) (gC (gN 2) (gC (gN 3) gE)))))
  (sThen (sSet 4 (mSeq m_windows (mCons (mGet 0) mNil)))
  (sThen (sSetO 5 (mDsp (mCons (mC (.int 0)) mNil)))
  (sThen (sFor (mWk rng1 (mCons (m2 pAdd (mGet 2) (mC (.int 1))) mNil)) (gN 6) l_least_needs_0)
  (fun ρ => (sRet (mGet 5)) (freeze 5 ρ))))))
noncomputable def m_least_needs : List PyData → RE PyData := fnM 1 10 b_least_needs
theorem ok_least_needs {P : Program} {w : World} {K : PySem.W.Frag} {mg : Str → Option Value} {base : Heap} {f : Addr} {fd : FuncData} (F : FnP K "least_needs" s_least_needs f fd) (gl : mg "least_needs" = some (.ref f)) (bi : Bi mg) (C_windows : Cal P w K mg base 2 "windows" ["track"] m_windows) : Cal P w K mg base 3 "least_needs" ["track"] m_least_needs :=
  Cal.of (k := 2) F gl sc_least_needs (fun _ _ _ _ _ _ us hl => match us, hl with | [_], _ => rfl) fun cdv A outer s H E F0 hr => by
    have nd := sc_least_needs.nd; have tk := takesD (P := P) (w := w) (K := K) (mg := mg) (base := base) (N := N_least_needs) (qual := "least_needs") (scope := defScope s_least_needs) (f := f) (cdv := cdv) (A := A) (outer := outer) (s := s) (H := H) (E := E); have po := passes_of (X := cxOf (L2.CX P w) P w K mg base N_least_needs "least_needs" (defScope s_least_needs) f cdv A outer s H E) rfl; exact
    (vs_cons (vs_asg (ve_var 0) (vg_tup rfl (vgs_cons (vg_name 1 nd) (vgs_cons (vg_name 2 nd) (vgs_cons (vg_name 3 nd) vgs_nil)))))
  (vs_cons (vs_set 4 nd (ve_cal C_windows hr tk (va_cons (ve_var 0) va_nil)))
  (vs_cons (vs_setO 5 nd (vf_lst (va_cons ve_int va_nil)))
  (vs_cons (vs_for po rfl (vi_range1 rfl bi.l_range (va_cons (ve_op opv_add (ve_var 2) ve_int) va_nil)) (vg_name 6 nd) (vs_one (vs_append 5 (ve_callB (cb_min rfl) rfl bi.l_min rfl (va_cons (VF.v (vf_lc rfl nd (vi_items (ve_var 4)) (blkOk_by (own := [("piece", 7), ("first", 8), ("last", 9)]) (N := N_least_needs) (sc := defScope s_least_needs) (by decide +kernel)) (fun _ _ _ _ _ => (vg_tup rfl (vgs_cons (vg_name 7 nd) (vgs_cons (vg_name 8 nd) (vgs_cons (vg_name 9 nd) vgs_nil))))) (fun _ _ _ _ _ => (vts_one (vt_chain opv_le opv_le (ve_var 8) (ve_var 6) (ve_var 9)))) (fun _ _ _ _ _ => (ve_op opv_add (ve_ixO 5 (ve_var 8)) (ve_ix (ve_var 3) (ve_var 7)))))) va_nil)))))
  (vs_one (vs_freeze 5 (vs_ret (ve_var 5))))))))
abbrev s_last_of_cover : Stmt := top 14
abbrev N_last_of_cover : List Str := ["track", "need", "k", "piece", "first", "last"]
theorem sc_last_of_cover : FnScope N_last_of_cover ["track", "need", "k"] (defScope s_last_of_cover) := ⟨rfl, rfl, rfl, by decide +kernel, rfl, by decide +kernel, by decide +kernel⟩
noncomputable def l_last_of_cover_0 : Evn → RS :=
  (sIf (mAndB (mB (mChain pLe pLe (mGet 4) (m2 pSub (mGet 2) (mC (.int 1))) (mGet 5))) (mB (m2 pEq (m2 pAdd (m2 pIdx (mGet 1) (mGet 4)) (m2 pIdx (m2 pIdx (mGet 0) (mC (.int 2))) (mGet 3))) (m2 pIdx (mGet 1) (mGet 2)))))
    (sRet (mSeq mTup (mCons (mGet 3) (mCons (mGet 4) mNil))))
    sNx)
theorem u_last_of_cover_0 (ρ : Evn) : l_last_of_cover_0 ρ = (sIf (mAndB (mB (mChain pLe pLe (mGet 4) (m2 pSub (mGet 2) (mC (.int 1))) (mGet 5))) (mB (m2 pEq (m2 pAdd (m2 pIdx (mGet 1) (mGet 4)) (m2 pIdx (m2 pIdx (mGet 0) (mC (.int 2))) (mGet 3))) (m2 pIdx (mGet 1) (mGet 2)))))
    (sRet (mSeq mTup (mCons (mGet 3) (mCons (mGet 4) mNil))))
    sNx) ρ := nr rfl
noncomputable def b_last_of_cover : Evn → RS :=
  (sThen (sFor (mItems (mSeq m_windows (mCons (mGet 0) mNil))) (gT 3 (gC (gN 3) (gC (gN 4) (gC (gN 5) gE)))) l_last_of_cover_0)
  (sRet (mC .none)))
noncomputable def m_last_of_cover : List PyData → RE PyData := fnM 3 6 b_last_of_cover
theorem ok_last_of_cover {P : Program} {w : World} {K : PySem.W.Frag} {mg : Str → Option Value} {base : Heap} {f : Addr} {fd : FuncData} (F : FnP K "last_of_cover" s_last_of_cover f fd) (gl : mg "last_of_cover" = some (.ref f)) (C_windows : Cal P w K mg base 2 "windows" ["track"] m_windows) : Cal P w K mg base 3 "last_of_cover" ["track", "need", "k"] m_last_of_cover :=
  Cal.of (k := 2) F gl sc_last_of_cover (fun _ _ _ _ _ _ us hl => match us, hl with | [_, _, _], _ => rfl) fun cdv A outer s H E F0 hr => by
    have nd := sc_last_of_cover.nd; have tk := takesD (P := P) (w := w) (K := K) (mg := mg) (base := base) (N := N_last_of_cover) (qual := "last_of_cover") (scope := defScope s_last_of_cover) (f := f) (cdv := cdv) (A := A) (outer := outer) (s := s) (H := H) (E := E); have po := passes_of (X := cxOf (L2.CX P w) P w K mg base N_last_of_cover "last_of_cover" (defScope s_last_of_cover) f cdv A outer s H E) rfl; exact
    (vs_cons (vs_for po rfl (vi_items (ve_cal C_windows hr tk (va_cons (ve_var 0) va_nil))) (vg_tup rfl (vgs_cons (vg_name 3 nd) (vgs_cons (vg_name 4 nd) (vgs_cons (vg_name 5 nd) vgs_nil)))) (vs_one (vs_if (VW.t (vw_and (vt_chain opv_le opv_le (ve_var 4) (ve_op opv_sub (ve_var 2) ve_int) (ve_var 5)) (vw_and1 (vt_cmp (opv_eq hr) (ve_op opv_add (ve_ix (ve_var 1) (ve_var 4)) (ve_ix (ve_ix (ve_var 0) ve_int) (ve_var 3))) (ve_ix (ve_var 1) (ve_var 2)))))) (vs_one (vs_ret (ve_tup (va_cons (ve_var 3) (va_cons (ve_var 4) va_nil))))) vs_nil)))
  (vs_one (vs_ret ve_non)))
abbrev s_least_cover : Stmt := top 15
abbrev N_least_cover : List Str := ["track", "need", "found", "k", "piece"]
theorem sc_least_cover : FnScope N_least_cover ["track", "need"] (defScope s_least_cover) := ⟨rfl, rfl, rfl, by decide +kernel, rfl, by decide +kernel, by decide +kernel⟩
noncomputable def l_least_cover_0 : Evn → RS :=
  (sThen (sAsg (mSeq m_last_of_cover (mCons (mGet 0) (mCons (mGet 1) (mCons (mGet 3) mNil)))) (gT 2 (gC (gN 4) (gC (gN 3) gE))))
  (sApp 2 (mGet 4)))
theorem u_least_cover_0 (ρ : Evn) : l_least_cover_0 ρ = (sThen (sAsg (mSeq m_last_of_cover (mCons (mGet 0) (mCons (mGet 1) (mCons (mGet 3) mNil)))) (gT 2 (gC (gN 4) (gC (gN 3) gE))))
  (sApp 2 (mGet 4))) ρ := nr rfl
noncomputable def l_least_cover_1 : Evn → RE Bool :=
  (mB (m2 pGt (mGet 3) (mC (.int 0))))
theorem u_least_cover_1 (ρ : Evn) : l_least_cover_1 ρ = (mB (m2 pGt (mGet 3) (mC (.int 0)))) ρ := nr rfl
noncomputable def b_least_cover : Evn → RS :=
  (sThen (sSetO 2 (mDsp mNil))
  (sThen (sSet 3 (m2 pSub (mCall bLen (mCons (mGet 1) mNil)) (mC (.int 1))))
  (sThen (whileM l_least_cover_1 l_least_cover_0 1000000000000)
  (fun ρ => (sRet (mCall bSorted (mCons (mGet 2) mNil))) (freeze 2 ρ)))))
noncomputable def m_least_cover : List PyData → RE PyData := fnM 2 5 b_least_cover
theorem ok_least_cover {P : Program} {w : World} {K : PySem.W.Frag} {mg : Str → Option Value} {base : Heap} {f : Addr} {fd : FuncData} (F : FnP K "least_cover" s_least_cover f fd) (gl : mg "least_cover" = some (.ref f)) (bi : Bi mg) (C_last_of_cover : Cal P w K mg base 3 "last_of_cover" ["track", "need", "k"] m_last_of_cover) : Cal P w K mg base 4 "least_cover" ["track", "need"] m_least_cover :=
  Cal.of (k := 3) F gl sc_least_cover (fun _ _ _ _ _ _ us hl => match us, hl with | [_, _], _ => rfl) fun cdv A outer s H E F0 hr => by
    have nd := sc_least_cover.nd; have tk := takesD (P := P) (w := w) (K := K) (mg := mg) (base := base) (N := N_least_cover) (qual := "least_cover") (scope := defScope s_least_cover) (f := f) (cdv := cdv) (A := A) (outer := outer) (s := s) (H := H) (E := E); have po := passes_of (X := cxOf (L2.CX P w) P w K mg base N_least_cover "least_cover" (defScope s_least_cover) f cdv A outer s H E) rfl; exact
    (vs_cons (vs_setO 2 nd (vf_lst va_nil))
  (vs_cons (vs_set 3 nd (ve_op opv_sub (ve_callB cb_len rfl bi.l_len rfl (va_cons (ve_var 1) va_nil)) ve_int))
  (vs_cons (vs_while 1000000000000 po (vt_cmp opv_gt (ve_var 3) ve_int) (vs_cons (vs_asg (ve_cal C_last_of_cover hr tk (va_cons (ve_var 0) (va_cons (ve_var 1) (va_cons (ve_var 3) va_nil)))) (vg_tup rfl (vgs_cons (vg_name 4 nd) (vgs_cons (vg_name 3 nd) vgs_nil))))
  (vs_one (vs_append 2 (ve_var 4)))))
  (vs_one (vs_freeze 2 (vs_ret (ve_callB (cb_sorted hr) (by rfl) bi.l_sorted (by rfl) (va_cons (ve_var 2) va_nil))))))))
abbrev s_most_years : Stmt := top 16
abbrev N_most_years : List Str := ["track", "need", "plan", "k"]
theorem sc_most_years : FnScope N_most_years ["track"] (defScope s_most_years) := ⟨rfl, rfl, rfl, by decide +kernel, rfl, by decide +kernel, by decide +kernel⟩
noncomputable def b_most_years : Evn → RS :=
  (sThen (sSet 1 (mSeq m_least_needs (mCons (mGet 0) mNil)))
  (sThen (sSetL 2 (mLc (mWk rng1 (mCons (m2 pSub (mCall bLen (mCons (mGet 1) mNil)) (mC (.int 1))) mNil)) (gN 3) mYes (m2 pSub (m2 pIdx (mGet 1) (m2 pAdd (mGet 3) (mC (.int 1)))) (m2 pIdx (mGet 1) (mGet 3))) [3]))
  (sRet (mSeq mTup (mCons (m2 pIdx (mGet 1) (m1 pNeg (mC (.int 1)))) (mCons (mGet 2) (mCons (mSeq m_least_cover (mCons (mGet 0) (mCons (mGet 1) mNil))) mNil)))))))
noncomputable def m_most_years : List PyData → RE PyData := fnM 1 4 b_most_years
theorem ok_most_years {P : Program} {w : World} {K : PySem.W.Frag} {mg : Str → Option Value} {base : Heap} {f : Addr} {fd : FuncData} (F : FnP K "most_years" s_most_years f fd) (gl : mg "most_years" = some (.ref f)) (bi : Bi mg) (C_least_needs : Cal P w K mg base 3 "least_needs" ["track"] m_least_needs) (C_least_cover : Cal P w K mg base 4 "least_cover" ["track", "need"] m_least_cover) : Cal P w K mg base 5 "most_years" ["track"] m_most_years :=
  Cal.of (k := 4) F gl sc_most_years (fun _ _ _ _ _ _ us hl => match us, hl with | [_], _ => rfl) fun cdv A outer s H E F0 hr => by
    have nd := sc_most_years.nd; have tk := takesD (P := P) (w := w) (K := K) (mg := mg) (base := base) (N := N_most_years) (qual := "most_years") (scope := defScope s_most_years) (f := f) (cdv := cdv) (A := A) (outer := outer) (s := s) (H := H) (E := E); have po := passes_of (X := cxOf (L2.CX P w) P w K mg base N_most_years "most_years" (defScope s_most_years) f cdv A outer s H E) rfl; exact
    (vs_cons (vs_set 1 nd (ve_cal C_least_needs hr tk (va_cons (ve_var 0) va_nil)))
  (vs_cons (vs_lcL 2 rfl nd (vi_range1 rfl bi.l_range (va_cons (ve_op opv_sub (ve_callB cb_len rfl bi.l_len rfl (va_cons (ve_var 1) va_nil)) ve_int) va_nil)) (blkOk_by (own := [("k", 3)]) (N := N_most_years) (sc := defScope s_most_years) (by decide +kernel)) (fun _ _ _ _ _ => (vg_name 3 nd)) (fun _ _ _ _ _ => vts_nil) (fun _ _ _ _ _ => (ve_op opv_sub (ve_ix (ve_var 1) (ve_op opv_add (ve_var 3) ve_int)) (ve_ix (ve_var 1) (ve_var 3)))))
  (vs_one (vs_ret (ve_tup (va_cons (ve_ix (ve_var 1) (ve_neg ve_int)) (va_cons (ve_var 2) (va_cons (ve_cal C_least_cover hr tk (va_cons (ve_var 0) (va_cons (ve_var 1) va_nil))) va_nil))))))))
abbrev s_law_window : Stmt := top 22
abbrev N_law_window : List Str := ["track", "piece", "saddles", "spare", "left", "found", "offset", "place", "width"]
theorem sc_law_window : FnScope N_law_window ["track", "piece"] (defScope s_law_window) := ⟨rfl, rfl, rfl, by decide +kernel, rfl, by decide +kernel, by decide +kernel⟩
noncomputable def l_law_window_0 : Evn → RS :=
  (sIf (mAndB (mB (m2 pLe (m2 pAdd (mGet 7) (mGet 6)) (mGet 1))) (mB (m2 pLt (mGet 1) (m2 pAdd (m2 pAdd (mGet 7) (mGet 6)) (mGet 8)))))
    (sApp 5 (mGet 6))
    sNx)
theorem u_law_window_0 (ρ : Evn) : l_law_window_0 ρ = (sIf (mAndB (mB (m2 pLe (m2 pAdd (mGet 7) (mGet 6)) (mGet 1))) (mB (m2 pLt (mGet 1) (m2 pAdd (m2 pAdd (mGet 7) (mGet 6)) (mGet 8)))))
    (sApp 5 (mGet 6))
    sNx) ρ := nr rfl
noncomputable def l_law_window_1 : Evn → RS :=
  (sFor (mItems (mGet 2)) (gT 2 (gC (gN 7) (gC (gN 8) gE))) l_law_window_0)
theorem u_law_window_1 (ρ : Evn) : l_law_window_1 ρ = (sFor (mItems (mGet 2)) (gT 2 (gC (gN 7) (gC (gN 8) gE))) l_law_window_0) ρ := nr rfl
noncomputable def b_law_window : Evn → RS :=
  (sThen (sAsg (mGet 0) (gT 3 (gC (gN 2) (gC (gN 3) (gC (gN 4) gE)))))
  (sThen (sSetO 5 (mDsp mNil))
  (sThen (sFor (mWk rng1 (mCons (m2 pAdd (mGet 3) (mC (.int 1))) mNil)) (gN 6) l_law_window_1)
  (sThen (sIf (mB (m2 pEq (mBor 5 (mCall bLen (mCons (mGet 5) mNil))) (mC (.int 0))))
    (sRet (mC .none))
    sNx)
  (sRet (mSeq mTup (mCons (mIxO 5 (mC (.int 0))) (mCons (mIxO 5 (m2 pSub (mBor 5 (mCall bLen (mCons (mGet 5) mNil))) (mC (.int 1)))) mNil))))))))
noncomputable def m_law_window : List PyData → RE PyData := fnM 2 9 b_law_window
theorem ok_law_window {P : Program} {w : World} {K : PySem.W.Frag} {mg : Str → Option Value} {base : Heap} {f : Addr} {fd : FuncData} (F : FnP K "_law_window" s_law_window f fd) (gl : mg "_law_window" = some (.ref f)) (bi : Bi mg) : Cal P w K mg base 1 "_law_window" ["track", "piece"] m_law_window :=
  Cal.of (k := 0) F gl sc_law_window (fun _ _ _ _ _ _ us hl => match us, hl with | [_, _], _ => rfl) fun cdv A outer s H E F0 hr => by
    have nd := sc_law_window.nd; have tk := takesD (P := P) (w := w) (K := K) (mg := mg) (base := base) (N := N_law_window) (qual := "_law_window") (scope := defScope s_law_window) (f := f) (cdv := cdv) (A := A) (outer := outer) (s := s) (H := H) (E := E); have po := passes_of (X := cxOf (L2.CX P w) P w K mg base N_law_window "_law_window" (defScope s_law_window) f cdv A outer s H E) rfl; exact
    (vs_cons (vs_asg (ve_var 0) (vg_tup rfl (vgs_cons (vg_name 2 nd) (vgs_cons (vg_name 3 nd) (vgs_cons (vg_name 4 nd) vgs_nil)))))
  (vs_cons (vs_setO 5 nd (vf_lst va_nil))
  (vs_cons (vs_for po rfl (vi_range1 rfl bi.l_range (va_cons (ve_op opv_add (ve_var 3) ve_int) va_nil)) (vg_name 6 nd) (vs_one (vs_for po rfl (vi_items (ve_var 2)) (vg_tup rfl (vgs_cons (vg_name 7 nd) (vgs_cons (vg_name 8 nd) vgs_nil))) (vs_one (vs_if (VW.t (vw_and (vt_cmp opv_le (ve_op opv_add (ve_var 7) (ve_var 6)) (ve_var 1)) (vw_and1 (vt_cmp opv_lt (ve_var 1) (ve_op opv_add (ve_op opv_add (ve_var 7) (ve_var 6)) (ve_var 8)))))) (vs_one (vs_append 5 (ve_var 6))) vs_nil)))))
  (vs_cons (vs_if (vt_cmp (opv_eq hr) (ve_bor 5 (ve_callB cb_len rfl bi.l_len rfl (va_cons (ve_var 5) va_nil))) ve_int) (vs_one (vs_ret ve_non)) vs_nil)
  (vs_one (vs_ret (ve_tup (va_cons (ve_ixO 5 ve_int) (va_cons (ve_ixO 5 (ve_op opv_sub (ve_bor 5 (ve_callB cb_len rfl bi.l_len rfl (va_cons (ve_var 5) va_nil))) ve_int)) va_nil)))))))))
abbrev s_law_paper : Stmt := top 25
abbrev N_law_paper : List Str := ["track", "saddles", "spare", "left", "windows_v", "piece", "need", "k", "some", "cover", "step", "chosen"]
theorem sc_law_paper : FnScope N_law_paper ["track"] (defScope s_law_paper) := ⟨rfl, rfl, rfl, by decide +kernel, rfl, by decide +kernel, by decide +kernel⟩
noncomputable def l_law_paper_0 : Evn → RS :=
  (sIf (mAndB (mB (m2 pIsNotN (m2 pIdx (mGet 4) (mGet 5)) (mC .none))) (mAndB (mB (m2 pLe (m2 pIdx (m2 pIdx (mGet 4) (mGet 5)) (mC (.int 0))) (mGet 7))) (mB (m2 pLe (mGet 7) (m2 pIdx (m2 pIdx (mGet 4) (mGet 5)) (mC (.int 1)))))))
    (sApp 8 (m2 pAdd (mIxO 6 (m2 pIdx (m2 pIdx (mGet 4) (mGet 5)) (mC (.int 0)))) (m2 pIdx (mGet 3) (mGet 5))))
    sNx)
theorem u_law_paper_0 (ρ : Evn) : l_law_paper_0 ρ = (sIf (mAndB (mB (m2 pIsNotN (m2 pIdx (mGet 4) (mGet 5)) (mC .none))) (mAndB (mB (m2 pLe (m2 pIdx (m2 pIdx (mGet 4) (mGet 5)) (mC (.int 0))) (mGet 7))) (mB (m2 pLe (mGet 7) (m2 pIdx (m2 pIdx (mGet 4) (mGet 5)) (mC (.int 1)))))))
    (sApp 8 (m2 pAdd (mIxO 6 (m2 pIdx (m2 pIdx (mGet 4) (mGet 5)) (mC (.int 0)))) (m2 pIdx (mGet 3) (mGet 5))))
    sNx) ρ := nr rfl
noncomputable def l_law_paper_1 : Evn → RS :=
  (sThen (sSetO 8 (mDsp mNil))
  (sThen (sFor (mWk rng1 (mCons (mCall bLen (mCons (mGet 3) mNil)) mNil)) (gN 5) l_law_paper_0)
  (sApp 6 (mBor 8 (mCall bMin (mCons (mGet 8) mNil))))))
theorem u_law_paper_1 (ρ : Evn) : l_law_paper_1 ρ = (sThen (sSetO 8 (mDsp mNil))
  (sThen (sFor (mWk rng1 (mCons (mCall bLen (mCons (mGet 3) mNil)) mNil)) (gN 5) l_law_paper_0)
  (sApp 6 (mBor 8 (mCall bMin (mCons (mGet 8) mNil)))))) ρ := nr rfl
noncomputable def l_law_paper_2 : Evn → RS :=
  (sIf (mAndB (mB (m2 pGt (mGet 7) (mC (.int 0)))) (mAndB (mB (m2 pIsN (mGet 11) (mC .none))) (mAndB (mB (m2 pIsNotN (m2 pIdx (mGet 4) (mGet 5)) (mC .none))) (mAndB (mB (m2 pLt (m2 pIdx (m2 pIdx (mGet 4) (mGet 5)) (mC (.int 0))) (mGet 7))) (mB (m2 pLe (m2 pSub (mGet 7) (mC (.int 1))) (m2 pIdx (m2 pIdx (mGet 4) (mGet 5)) (mC (.int 1)))))))))
    (sIf (mB (m2 pEq (m2 pAdd (mIxO 6 (m2 pIdx (m2 pIdx (mGet 4) (mGet 5)) (mC (.int 0)))) (m2 pIdx (mGet 3) (mGet 5))) (mIxO 6 (mGet 7))))
      (sSet 11 (mGet 5))
      sNx)
    sNx)
theorem u_law_paper_2 (ρ : Evn) : l_law_paper_2 ρ = (sIf (mAndB (mB (m2 pGt (mGet 7) (mC (.int 0)))) (mAndB (mB (m2 pIsN (mGet 11) (mC .none))) (mAndB (mB (m2 pIsNotN (m2 pIdx (mGet 4) (mGet 5)) (mC .none))) (mAndB (mB (m2 pLt (m2 pIdx (m2 pIdx (mGet 4) (mGet 5)) (mC (.int 0))) (mGet 7))) (mB (m2 pLe (m2 pSub (mGet 7) (mC (.int 1))) (m2 pIdx (m2 pIdx (mGet 4) (mGet 5)) (mC (.int 1)))))))))
    (sIf (mB (m2 pEq (m2 pAdd (mIxO 6 (m2 pIdx (m2 pIdx (mGet 4) (mGet 5)) (mC (.int 0)))) (m2 pIdx (mGet 3) (mGet 5))) (mIxO 6 (mGet 7))))
      (sSet 11 (mGet 5))
      sNx)
    sNx) ρ := nr rfl
noncomputable def l_law_paper_3 : Evn → RS :=
  (sThen (sSet 11 (mC .none))
  (sThen (sFor (mWk rng1 (mCons (mCall bLen (mCons (mGet 3) mNil)) mNil)) (gN 5) l_law_paper_2)
  (sIf (mB (m2 pIsNotN (mGet 11) (mC .none)))
    (sThen (sApp 9 (mGet 11))
    (sSet 7 (m2 pIdx (m2 pIdx (mGet 4) (mGet 11)) (mC (.int 0)))))
    sNx)))
theorem u_law_paper_3 (ρ : Evn) : l_law_paper_3 ρ = (sThen (sSet 11 (mC .none))
  (sThen (sFor (mWk rng1 (mCons (mCall bLen (mCons (mGet 3) mNil)) mNil)) (gN 5) l_law_paper_2)
  (sIf (mB (m2 pIsNotN (mGet 11) (mC .none)))
    (sThen (sApp 9 (mGet 11))
    (sSet 7 (m2 pIdx (m2 pIdx (mGet 4) (mGet 11)) (mC (.int 0)))))
    sNx))) ρ := nr rfl
noncomputable def b_law_paper : Evn → RS :=
  (sThen (sAsg (mGet 0) (gT 3 (gC (gN 1) (gC (gN 2) (gC (gN 3) gE)))))
  (sThen (sSetL 4 (mLc (mWk rng1 (mCons (mCall bLen (mCons (mGet 3) mNil)) mNil)) (gN 5) mYes (mSeq m_law_window (mCons (mGet 0) (mCons (mGet 5) mNil))) [5]))
  (sThen (sSetO 6 (mDsp (mCons (mC (.int 0)) mNil)))
  (sThen (sFor (mWk rng1 (mCons (m2 pAdd (mGet 2) (mC (.int 1))) mNil)) (gN 7) l_law_paper_1)
  (sThen (sSetO 9 (mDsp mNil))
  (sThen (sSet 7 (m2 pAdd (mGet 2) (mC (.int 1))))
  (sThen (sFor (mWk rng1 (mCons (m2 pAdd (mGet 2) (mC (.int 1))) mNil)) (gN 10) l_law_paper_3)
  (fun ρ => (sRet (mSeq mTup (mCons (mIxO 6 (m2 pAdd (mGet 2) (mC (.int 1)))) (mCons (mL (mLc (mWk rng1 (mCons (m2 pAdd (mGet 2) (mC (.int 1))) mNil)) (gN 7) mYes (m2 pSub (mIxO 6 (m2 pAdd (mGet 7) (mC (.int 1)))) (mIxO 6 (mGet 7))) [7])) (mCons (mCall bSorted (mCons (mGet 9) mNil)) mNil))))) (freeze 9 ρ)))))))))
noncomputable def m_law_paper : List PyData → RE PyData := fnM 1 12 b_law_paper
theorem ok_law_paper {P : Program} {w : World} {K : PySem.W.Frag} {mg : Str → Option Value} {base : Heap} {f : Addr} {fd : FuncData} (F : FnP K "_law_paper" s_law_paper f fd) (gl : mg "_law_paper" = some (.ref f)) (bi : Bi mg) (C_law_window : Cal P w K mg base 1 "_law_window" ["track", "piece"] m_law_window) : Cal P w K mg base 2 "_law_paper" ["track"] m_law_paper :=
  Cal.of (k := 1) F gl sc_law_paper (fun _ _ _ _ _ _ us hl => match us, hl with | [_], _ => rfl) fun cdv A outer s H E F0 hr => by
    have nd := sc_law_paper.nd; have tk := takesD (P := P) (w := w) (K := K) (mg := mg) (base := base) (N := N_law_paper) (qual := "_law_paper") (scope := defScope s_law_paper) (f := f) (cdv := cdv) (A := A) (outer := outer) (s := s) (H := H) (E := E); have po := passes_of (X := cxOf (L2.CX P w) P w K mg base N_law_paper "_law_paper" (defScope s_law_paper) f cdv A outer s H E) rfl; exact
    (vs_cons (vs_asg (ve_var 0) (vg_tup rfl (vgs_cons (vg_name 1 nd) (vgs_cons (vg_name 2 nd) (vgs_cons (vg_name 3 nd) vgs_nil)))))
  (vs_cons (vs_lcL 4 rfl nd (vi_range1 rfl bi.l_range (va_cons (ve_callB cb_len rfl bi.l_len rfl (va_cons (ve_var 3) va_nil)) va_nil)) (blkOk_by (own := [("piece", 5)]) (N := N_law_paper) (sc := defScope s_law_paper) (by decide +kernel)) (fun _ _ _ _ _ => (vg_name 5 nd)) (fun _ _ _ _ _ => vts_nil) (fun _ _ _ _ _ => (ve_cal C_law_window hr takesN (va_cons (ve_var 0) (va_cons (ve_var 5) va_nil)))))
  (vs_cons (vs_setO 6 nd (vf_lst (va_cons ve_int va_nil)))
  (vs_cons (vs_for po rfl (vi_range1 rfl bi.l_range (va_cons (ve_op opv_add (ve_var 2) ve_int) va_nil)) (vg_name 7 nd) (vs_cons (vs_setO 8 nd (vf_lst va_nil))
  (vs_cons (vs_for po rfl (vi_range1 rfl bi.l_range (va_cons (ve_callB cb_len rfl bi.l_len rfl (va_cons (ve_var 3) va_nil)) va_nil)) (vg_name 5 nd) (vs_one (vs_if (VW.t (vw_and (vt_cmp opv_isnot (ve_ix (ve_var 4) (ve_var 5)) ve_non) (vw_and (vt_cmp opv_le (ve_ix (ve_ix (ve_var 4) (ve_var 5)) ve_int) (ve_var 7)) (vw_and1 (vt_cmp opv_le (ve_var 7) (ve_ix (ve_ix (ve_var 4) (ve_var 5)) ve_int)))))) (vs_one (vs_append 8 (ve_op opv_add (ve_ixO 6 (ve_ix (ve_ix (ve_var 4) (ve_var 5)) ve_int)) (ve_ix (ve_var 3) (ve_var 5))))) vs_nil)))
  (vs_one (vs_append 6 (ve_bor 8 (ve_callB (cb_min rfl) rfl bi.l_min rfl (va_cons (ve_var 8) va_nil))))))))
  (vs_cons (vs_setO 9 nd (vf_lst va_nil))
  (vs_cons (vs_set 7 nd (ve_op opv_add (ve_var 2) ve_int))
  (vs_cons (vs_for po rfl (vi_range1 rfl bi.l_range (va_cons (ve_op opv_add (ve_var 2) ve_int) va_nil)) (vg_name 10 nd) (vs_cons (vs_set 11 nd ve_non)
  (vs_cons (vs_for po rfl (vi_range1 rfl bi.l_range (va_cons (ve_callB cb_len rfl bi.l_len rfl (va_cons (ve_var 3) va_nil)) va_nil)) (vg_name 5 nd) (vs_one (vs_if (VW.t (vw_and (vt_cmp opv_gt (ve_var 7) ve_int) (vw_and (vt_cmp opv_is (ve_var 11) ve_non) (vw_and (vt_cmp opv_isnot (ve_ix (ve_var 4) (ve_var 5)) ve_non) (vw_and (vt_cmp opv_lt (ve_ix (ve_ix (ve_var 4) (ve_var 5)) ve_int) (ve_var 7)) (vw_and1 (vt_cmp opv_le (ve_op opv_sub (ve_var 7) ve_int) (ve_ix (ve_ix (ve_var 4) (ve_var 5)) ve_int)))))))) (vs_one (vs_if (vt_cmp (opv_eq hr) (ve_op opv_add (ve_ixO 6 (ve_ix (ve_ix (ve_var 4) (ve_var 5)) ve_int)) (ve_ix (ve_var 3) (ve_var 5))) (ve_ixO 6 (ve_var 7))) (vs_one (vs_set 11 nd (ve_var 5))) vs_nil)) vs_nil)))
  (vs_one (vs_if (vt_cmp opv_isnot (ve_var 11) ve_non) (vs_cons (vs_append 9 (ve_var 11))
    (vs_one (vs_set 7 nd (ve_ix (ve_ix (ve_var 4) (ve_var 11)) ve_int)))) vs_nil)))))
  (vs_one (vs_freeze 9 (vs_ret (ve_tup (va_cons (ve_ixO 6 (ve_op opv_add (ve_var 2) ve_int)) (va_cons (VF.v (vf_lc rfl nd (vi_range1 rfl bi.l_range (va_cons (ve_op opv_add (ve_var 2) ve_int) va_nil)) (blkOk_by (own := [("k", 7)]) (N := N_law_paper) (sc := defScope s_law_paper) (by decide +kernel)) (fun _ _ _ _ _ => (vg_name 7 nd)) (fun _ _ _ _ _ => vts_nil) (fun _ _ _ _ _ => (ve_op opv_sub (ve_ixO 6 (ve_op opv_add (ve_var 7) ve_int)) (ve_ixO 6 (ve_var 7)))))) (va_cons (ve_callB (cb_sorted hr) (by rfl) bi.l_sorted (by rfl) (va_cons (ve_var 9) va_nil)) va_nil))))))))))))))
abbrev s_law_plan_holds : Stmt := top 23
abbrev N_law_plan_holds : List Str := ["track", "plan", "saddles", "spare", "left", "years", "piece", "total", "offset", "lies", "place", "width"]
theorem sc_law_plan_holds : FnScope N_law_plan_holds ["track", "plan"] (defScope s_law_plan_holds) := ⟨rfl, rfl, rfl, by decide +kernel, rfl, by decide +kernel, by decide +kernel⟩
noncomputable def l_law_plan_holds_0 : Evn → RS :=
  (sThen (sSetL 9 (mLc (mItems (mGet 2)) (gT 2 (gC (gN 10) (gC (gN 11) gE))) (mAndB (mB (m2 pLe (m2 pAdd (mGet 10) (mGet 8)) (mGet 6))) (mB (m2 pLt (mGet 6) (m2 pAdd (m2 pAdd (mGet 10) (mGet 8)) (mGet 11))))) (mGet 10) [10, 11]))
  (sSet 7 (m2 pAdd (mGet 7) (m2 pMul (m2 pIdx (mGet 1) (mGet 8)) (mCall bInt (mCons (m2 pGt (mCall bLen (mCons (mGet 9) mNil)) (mC (.int 0))) mNil))))))
theorem u_law_plan_holds_0 (ρ : Evn) : l_law_plan_holds_0 ρ = (sThen (sSetL 9 (mLc (mItems (mGet 2)) (gT 2 (gC (gN 10) (gC (gN 11) gE))) (mAndB (mB (m2 pLe (m2 pAdd (mGet 10) (mGet 8)) (mGet 6))) (mB (m2 pLt (mGet 6) (m2 pAdd (m2 pAdd (mGet 10) (mGet 8)) (mGet 11))))) (mGet 10) [10, 11]))
  (sSet 7 (m2 pAdd (mGet 7) (m2 pMul (m2 pIdx (mGet 1) (mGet 8)) (mCall bInt (mCons (m2 pGt (mCall bLen (mCons (mGet 9) mNil)) (mC (.int 0))) mNil)))))) ρ := nr rfl
noncomputable def l_law_plan_holds_1 : Evn → RS :=
  (sThen (sSet 7 (mC (.int 0)))
  (sThen (sFor (mWk rng1 (mCons (m2 pAdd (mGet 3) (mC (.int 1))) mNil)) (gN 8) l_law_plan_holds_0)
  (sIf (mB (m2 pGt (mGet 7) (m2 pIdx (mGet 4) (mGet 6))))
    (sRet (mC (.bool false)))
    sNx)))
theorem u_law_plan_holds_1 (ρ : Evn) : l_law_plan_holds_1 ρ = (sThen (sSet 7 (mC (.int 0)))
  (sThen (sFor (mWk rng1 (mCons (m2 pAdd (mGet 3) (mC (.int 1))) mNil)) (gN 8) l_law_plan_holds_0)
  (sIf (mB (m2 pGt (mGet 7) (m2 pIdx (mGet 4) (mGet 6))))
    (sRet (mC (.bool false)))
    sNx))) ρ := nr rfl
noncomputable def b_law_plan_holds : Evn → RS :=
  (sThen (sAsg (mGet 0) (gT 3 (gC (gN 2) (gC (gN 3) (gC (gN 4) gE)))))
  (sThen (sIf (mOrB (mB (m2 pNe (mCall bLen (mCons (mGet 1) mNil)) (m2 pAdd (mGet 3) (mC (.int 1))))) (mB (m2 pGt (mCall bLen (mCons (mL (mLc (mItems (mGet 1)) (gN 5) (mB (m2 pLt (mGet 5) (mC (.int 0)))) (mGet 5) [5])) mNil)) (mC (.int 0)))))
    (sRet (mC (.bool false)))
    sNx)
  (sThen (sFor (mWk rng1 (mCons (mCall bLen (mCons (mGet 4) mNil)) mNil)) (gN 6) l_law_plan_holds_1)
  (sRet (mC (.bool true))))))
noncomputable def m_law_plan_holds : List PyData → RE PyData := fnM 2 12 b_law_plan_holds
theorem ok_law_plan_holds {P : Program} {w : World} {K : PySem.W.Frag} {mg : Str → Option Value} {base : Heap} {f : Addr} {fd : FuncData} (F : FnP K "_law_plan_holds" s_law_plan_holds f fd) (gl : mg "_law_plan_holds" = some (.ref f)) (bi : Bi mg) : Cal P w K mg base 1 "_law_plan_holds" ["track", "plan"] m_law_plan_holds :=
  Cal.of (k := 0) F gl sc_law_plan_holds (fun _ _ _ _ _ _ us hl => match us, hl with | [_, _], _ => rfl) fun cdv A outer s H E F0 hr => by
    have nd := sc_law_plan_holds.nd; have tk := takesD (P := P) (w := w) (K := K) (mg := mg) (base := base) (N := N_law_plan_holds) (qual := "_law_plan_holds") (scope := defScope s_law_plan_holds) (f := f) (cdv := cdv) (A := A) (outer := outer) (s := s) (H := H) (E := E); have po := passes_of (X := cxOf (L2.CX P w) P w K mg base N_law_plan_holds "_law_plan_holds" (defScope s_law_plan_holds) f cdv A outer s H E) rfl; exact
    (vs_cons (vs_asg (ve_var 0) (vg_tup rfl (vgs_cons (vg_name 2 nd) (vgs_cons (vg_name 3 nd) (vgs_cons (vg_name 4 nd) vgs_nil)))))
  (vs_cons (vs_if (VW.t (vw_or (vt_cmp (opv_ne hr) (ve_callB cb_len rfl bi.l_len rfl (va_cons (ve_var 1) va_nil)) (ve_op opv_add (ve_var 3) ve_int)) (vw_or1 (vt_cmp opv_gt (ve_callB cb_len rfl bi.l_len rfl (va_cons (VF.v (vf_lc rfl nd (vi_items (ve_var 1)) (blkOk_by (own := [("years", 5)]) (N := N_law_plan_holds) (sc := defScope s_law_plan_holds) (by decide +kernel)) (fun _ _ _ _ _ => (vg_name 5 nd)) (fun _ _ _ _ _ => (vts_one (vt_cmp opv_lt (ve_var 5) ve_int))) (fun _ _ _ _ _ => (ve_var 5)))) va_nil)) ve_int)))) (vs_one (vs_ret ve_bl)) vs_nil)
  (vs_cons (vs_for po rfl (vi_range1 rfl bi.l_range (va_cons (ve_callB cb_len rfl bi.l_len rfl (va_cons (ve_var 4) va_nil)) va_nil)) (vg_name 6 nd) (vs_cons (vs_set 7 nd ve_int)
  (vs_cons (vs_for po rfl (vi_range1 rfl bi.l_range (va_cons (ve_op opv_add (ve_var 3) ve_int) va_nil)) (vg_name 8 nd) (vs_cons (vs_lcL 9 rfl nd (vi_items (ve_var 2)) (blkOk_by (own := [("place", 10), ("width", 11)]) (N := N_law_plan_holds) (sc := defScope s_law_plan_holds) (by decide +kernel)) (fun _ _ _ _ _ => (vg_tup rfl (vgs_cons (vg_name 10 nd) (vgs_cons (vg_name 11 nd) vgs_nil)))) (fun _ _ _ _ _ => (vts_one (VW.t (vw_and (vt_cmp opv_le (ve_op opv_add (ve_var 10) (ve_var 8)) (ve_var 6)) (vw_and1 (vt_cmp opv_lt (ve_var 6) (ve_op opv_add (ve_op opv_add (ve_var 10) (ve_var 8)) (ve_var 11)))))))) (fun _ _ _ _ _ => (ve_var 10)))
  (vs_one (vs_set 7 nd (ve_op opv_add (ve_var 7) (ve_op opv_mul (ve_ix (ve_var 1) (ve_var 8)) (ve_callTy cb_int rfl bi.l_int rfl (va_cons (ve_cmp opv_gt (ve_callB cb_len rfl bi.l_len rfl (va_cons (ve_var 9) va_nil)) ve_int) va_nil))))))))
  (vs_one (vs_if (vt_cmp opv_gt (ve_var 7) (ve_ix (ve_var 4) (ve_var 6))) (vs_one (vs_ret ve_bl)) vs_nil)))))
  (vs_one (vs_ret ve_bl)))))
abbrev s_law_best : Stmt := top 27
abbrev N_law_best : List Str := ["track", "plan", "saddles", "spare", "left", "years"]
theorem sc_law_best : FnScope N_law_best ["track", "plan"] (defScope s_law_best) := ⟨rfl, rfl, rfl, by decide +kernel, rfl, by decide +kernel, by decide +kernel⟩
noncomputable def b_law_best (self : List PyData → RE PyData) : Evn → RS :=
  (sThen (sAsg (mGet 0) (gT 3 (gC (gN 2) (gC (gN 3) (gC (gN 4) gE)))))
  (sThen (sIf (mB (m2 pEq (mCall bLen (mCons (mGet 1) mNil)) (m2 pAdd (mGet 3) (mC (.int 1)))))
    (sRet (m2 pMul (mCall bSum (mCons (mGet 1) mNil)) (mCall bInt (mCons (mSeq m_law_plan_holds (mCons (mGet 0) (mCons (mGet 1) mNil))) mNil))))
    sNx)
  (sRet (mCall bMax (mCons (mL (mLc (mWk rng1 (mCons (mC (.int 4)) mNil)) (gN 5) mYes (mSeq self (mCons (mGet 0) (mCons (m2 pAdd (mGet 1) (mSeq mLst (mCons (mGet 5) mNil))) mNil))) [5])) mNil)))))
noncomputable def m_law_best : Nat → List PyData → RE PyData
  | 0 => fun _ => .bad
  | k + 1 => fnM 2 6 (b_law_best (m_law_best k))
theorem okr_law_best {P : Program} {w : World} {K : PySem.W.Frag} {mg : Str → Option Value} {base : Heap} {f : Addr} {fd : FuncData} (F : FnP K "_law_best" s_law_best f fd) (gl : mg "_law_best" = some (.ref f)) (bi : Bi mg) (C_law_plan_holds : Cal P w K mg base 1 "_law_plan_holds" ["track", "plan"] m_law_plan_holds) (j : Nat) (C_self : Cal P w K mg base (2 + j) "_law_best" ["track", "plan"] (m_law_best j)) : Cal P w K mg base (2 + (j + 1)) "_law_best" ["track", "plan"] (m_law_best (j + 1)) :=
  Cal.of (k := 2 + j) F gl sc_law_best (fun _ _ _ _ _ _ us hl => match us, hl with | [_, _], _ => rfl) fun cdv A outer s H E F0 hr => by
    have nd := sc_law_best.nd; have tk := takesD (P := P) (w := w) (K := K) (mg := mg) (base := base) (N := N_law_best) (qual := "_law_best") (scope := defScope s_law_best) (f := f) (cdv := cdv) (A := A) (outer := outer) (s := s) (H := H) (E := E); have po := passes_of (X := cxOf (L2.CX P w) P w K mg base N_law_best "_law_best" (defScope s_law_best) f cdv A outer s H E) rfl; exact
    (vs_cons (vs_asg (ve_var 0) (vg_tup rfl (vgs_cons (vg_name 2 nd) (vgs_cons (vg_name 3 nd) (vgs_cons (vg_name 4 nd) vgs_nil)))))
  (vs_cons (vs_if (vt_cmp (opv_eq hr) (ve_callB cb_len rfl bi.l_len rfl (va_cons (ve_var 1) va_nil)) (ve_op opv_add (ve_var 3) ve_int)) (vs_one (vs_ret (ve_op opv_mul (ve_callB (cb_sum rfl) rfl bi.l_sum rfl (va_cons (ve_var 1) va_nil)) (ve_callTy cb_int rfl bi.l_int rfl (va_cons (ve_cal C_law_plan_holds hr tk (va_cons (ve_var 0) (va_cons (ve_var 1) va_nil))) va_nil))))) vs_nil)
  (vs_one (vs_ret (ve_callB (cb_max rfl) rfl bi.l_max rfl (va_cons (VF.v (vf_lc rfl nd (vi_range1 rfl bi.l_range (va_cons ve_int va_nil)) (blkOk_by (own := [("years", 5)]) (N := N_law_best) (sc := defScope s_law_best) (by decide +kernel)) (fun _ _ _ _ _ => (vg_name 5 nd)) (fun _ _ _ _ _ => vts_nil) (fun _ _ _ _ _ => (ve_cal C_self hr takesN (va_cons (ve_var 0) (va_cons (ve_op opv_add (ve_var 1) (ve_lst (va_cons (ve_var 5) va_nil))) va_nil)))))) va_nil))))))
theorem ok_law_best {P : Program} {w : World} {K : PySem.W.Frag} {mg : Str → Option Value} {base : Heap} {f : Addr} {fd : FuncData} (F : FnP K "_law_best" s_law_best f fd) (gl : mg "_law_best" = some (.ref f)) (bi : Bi mg) (C_law_plan_holds : Cal P w K mg base 1 "_law_plan_holds" ["track", "plan"] m_law_plan_holds) : ∀ j : Nat, Cal P w K mg base (2 + j) "_law_best" ["track", "plan"] (m_law_best j)
  | 0 => Cal.none F gl (fun _ _ _ _ _ _ us hl => match us, hl with | [_, _], _ => rfl)
  | j + 1 => okr_law_best F gl bi C_law_plan_holds j (ok_law_best F gl bi C_law_plan_holds j)
abbrev s_law_like : Stmt := top 20
abbrev N_law_like : List Str := ["told", "due", "k"]
theorem sc_law_like : FnScope N_law_like ["told", "due"] (defScope s_law_like) := ⟨rfl, rfl, rfl, by decide +kernel, rfl, by decide +kernel, by decide +kernel⟩
noncomputable def l_law_like_0 (self : List PyData → RE PyData) : Evn → RS :=
  (sIf (mNotB (mT (mSeq self (mCons (m2 pIdx (mGet 0) (mGet 2)) (mCons (m2 pIdx (mGet 1) (mGet 2)) mNil)))))
    (sRet (mC (.bool false)))
    sNx)
theorem u_law_like_0 (self : List PyData → RE PyData) (ρ : Evn) : l_law_like_0 self ρ = (sIf (mNotB (mT (mSeq self (mCons (m2 pIdx (mGet 0) (mGet 2)) (mCons (m2 pIdx (mGet 1) (mGet 2)) mNil)))))
    (sRet (mC (.bool false)))
    sNx) ρ := nr rfl
noncomputable def b_law_like (self : List PyData → RE PyData) : Evn → RS :=
  (sThen (sIf (mT (mIs2 Ty.list Ty.tuple (mGet 1)))
    (sThen (sIf (mOrB (mB (m2 pNe (mIs Ty.list (mGet 0)) (mIs Ty.list (mGet 1)))) (mB (m2 pNe (mIs Ty.tuple (mGet 0)) (mIs Ty.tuple (mGet 1)))))
      (sRet (mC (.bool false)))
      sNx)
    (sThen (sIf (mB (m2 pNe (mCall bLen (mCons (mGet 0) mNil)) (mCall bLen (mCons (mGet 1) mNil))))
      (sRet (mC (.bool false)))
      sNx)
    (sThen (sFor (mWk rng1 (mCons (mCall bLen (mCons (mGet 1) mNil)) mNil)) (gN 2) (l_law_like_0 self))
    (sRet (mC (.bool true))))))
    sNx)
  (sThen (sIf (mB (m2 pIsN (mGet 1) (mC .none)))
    (sRet (m2 pIsN (mGet 0) (mC .none)))
    sNx)
  (sThen (sIf (mT (mIs Ty.bool (mGet 1)))
    (sRet (mAnd (mIs Ty.bool (mGet 0)) (m2 pEq (mGet 0) (mGet 1))))
    sNx)
  (sThen (sIf (mT (mIs Ty.int (mGet 1)))
    (sRet (mAnd (mIs Ty.int (mGet 0)) (mAnd (m1 pNot (mIs Ty.bool (mGet 0))) (m2 pEq (mGet 0) (mGet 1)))))
    sNx)
  (sRet (mAnd (mIs Ty.str (mGet 0)) (m2 pEq (mGet 0) (mGet 1))))))))
noncomputable def m_law_like : Nat → List PyData → RE PyData
  | 0 => fun _ => .bad
  | k + 1 => fnM 2 3 (b_law_like (m_law_like k))
theorem okr_law_like {P : Program} {w : World} {K : PySem.W.Frag} {mg : Str → Option Value} {base : Heap} {f : Addr} {fd : FuncData} (F : FnP K "_law_like" s_law_like f fd) (gl : mg "_law_like" = some (.ref f)) (bi : Bi mg) (j : Nat) (C_self : Cal P w K mg base (1 + j) "_law_like" ["told", "due"] (m_law_like j)) : Cal P w K mg base (1 + (j + 1)) "_law_like" ["told", "due"] (m_law_like (j + 1)) :=
  Cal.of (k := 1 + j) F gl sc_law_like (fun _ _ _ _ _ _ us hl => match us, hl with | [_, _], _ => rfl) fun cdv A outer s H E F0 hr => by
    have nd := sc_law_like.nd; have tk := takesD (P := P) (w := w) (K := K) (mg := mg) (base := base) (N := N_law_like) (qual := "_law_like") (scope := defScope s_law_like) (f := f) (cdv := cdv) (A := A) (outer := outer) (s := s) (H := H) (E := E); have po := passes_of (X := cxOf (L2.CX P w) P w K mg base N_law_like "_law_like" (defScope s_law_like) f cdv A outer s H E) rfl; exact
    (vs_cons (vs_if (vt_truth (ve_isi2 (T := Ty.list) (U := Ty.tuple) (by decide) (by decide) (ve_var 1) rfl bi.l_isinstance rfl bi.l_list rfl rfl bi.l_tuple rfl)) (vs_cons (vs_if (VW.t (vw_or (vt_cmp (opv_ne hr) (ve_isi (T := Ty.list) (by decide) (ve_var 0) rfl bi.l_isinstance rfl bi.l_list rfl) (ve_isi (T := Ty.list) (by decide) (ve_var 1) rfl bi.l_isinstance rfl bi.l_list rfl)) (vw_or1 (vt_cmp (opv_ne hr) (ve_isi (T := Ty.tuple) (by decide) (ve_var 0) rfl bi.l_isinstance rfl bi.l_tuple rfl) (ve_isi (T := Ty.tuple) (by decide) (ve_var 1) rfl bi.l_isinstance rfl bi.l_tuple rfl))))) (vs_one (vs_ret ve_bl)) vs_nil)
    (vs_cons (vs_if (vt_cmp (opv_ne hr) (ve_callB cb_len rfl bi.l_len rfl (va_cons (ve_var 0) va_nil)) (ve_callB cb_len rfl bi.l_len rfl (va_cons (ve_var 1) va_nil))) (vs_one (vs_ret ve_bl)) vs_nil)
    (vs_cons (vs_for po rfl (vi_range1 rfl bi.l_range (va_cons (ve_callB cb_len rfl bi.l_len rfl (va_cons (ve_var 1) va_nil)) va_nil)) (vg_name 2 nd) (vs_one (vs_if (vt_not (vt_truth (ve_cal C_self hr tk (va_cons (ve_ix (ve_var 0) (ve_var 2)) (va_cons (ve_ix (ve_var 1) (ve_var 2)) va_nil))))) (vs_one (vs_ret ve_bl)) vs_nil)))
    (vs_one (vs_ret ve_bl))))) vs_nil)
  (vs_cons (vs_if (vt_cmp opv_is (ve_var 1) ve_non) (vs_one (vs_ret (ve_cmp opv_is (ve_var 0) ve_non))) vs_nil)
  (vs_cons (vs_if (vt_truth (ve_isi (T := Ty.bool) (by decide) (ve_var 1) rfl bi.l_isinstance rfl bi.l_bool rfl)) (vs_one (vs_ret (ve_and (ve_isi (T := Ty.bool) (by decide) (ve_var 0) rfl bi.l_isinstance rfl bi.l_bool rfl) (ve_one (ve_cmp (opv_eq hr) (ve_var 0) (ve_var 1)))))) vs_nil)
  (vs_cons (vs_if (vt_truth (ve_isi (T := Ty.int) (by decide) (ve_var 1) rfl bi.l_isinstance rfl bi.l_int rfl)) (vs_one (vs_ret (ve_and (ve_isi (T := Ty.int) (by decide) (ve_var 0) rfl bi.l_isinstance rfl bi.l_int rfl) (ve_and (ve_not (ve_isi (T := Ty.bool) (by decide) (ve_var 0) rfl bi.l_isinstance rfl bi.l_bool rfl)) (ve_one (ve_cmp (opv_eq hr) (ve_var 0) (ve_var 1))))))) vs_nil)
  (vs_one (vs_ret (ve_and (ve_isi (T := Ty.str) (by decide) (ve_var 0) rfl bi.l_isinstance rfl bi.l_str rfl) (ve_one (ve_cmp (opv_eq hr) (ve_var 0) (ve_var 1))))))))))
theorem ok_law_like {P : Program} {w : World} {K : PySem.W.Frag} {mg : Str → Option Value} {base : Heap} {f : Addr} {fd : FuncData} (F : FnP K "_law_like" s_law_like f fd) (gl : mg "_law_like" = some (.ref f)) (bi : Bi mg) : ∀ j : Nat, Cal P w K mg base (1 + j) "_law_like" ["told", "due"] (m_law_like j)
  | 0 => Cal.none F gl (fun _ _ _ _ _ _ us hl => match us, hl with | [_, _], _ => rfl)
  | j + 1 => okr_law_like F gl bi j (ok_law_like F gl bi j)
abbrev s_law_is_cover : Stmt := top 24
abbrev N_law_is_cover : List Str := ["track", "cover", "saddles", "spare", "left", "k", "pairs", "piece", "offset", "first", "last"]
theorem sc_law_is_cover : FnScope N_law_is_cover ["track", "cover"] (defScope s_law_is_cover) := ⟨rfl, rfl, rfl, by decide +kernel, rfl, by decide +kernel, by decide +kernel⟩
noncomputable def l_law_is_cover_0 : Evn → RS :=
  (sThen (sIf (mOrB (mB (m2 pLt (mGet 7) (mC (.int 0)))) (mOrB (mB (m2 pGe (mGet 7) (mCall bLen (mCons (mGet 4) mNil)))) (mB (m2 pIsN (mSeq m_law_window (mCons (mGet 0) (mCons (mGet 7) mNil))) (mC .none)))))
    (sRet (mC (.bool false)))
    sNx)
  (sApp 6 (mSeq m_law_window (mCons (mGet 0) (mCons (mGet 7) mNil)))))
theorem u_law_is_cover_0 (ρ : Evn) : l_law_is_cover_0 ρ = (sThen (sIf (mOrB (mB (m2 pLt (mGet 7) (mC (.int 0)))) (mOrB (mB (m2 pGe (mGet 7) (mCall bLen (mCons (mGet 4) mNil)))) (mB (m2 pIsN (mSeq m_law_window (mCons (mGet 0) (mCons (mGet 7) mNil))) (mC .none)))))
    (sRet (mC (.bool false)))
    sNx)
  (sApp 6 (mSeq m_law_window (mCons (mGet 0) (mCons (mGet 7) mNil))))) ρ := nr rfl
noncomputable def l_law_is_cover_1 : Evn → RS :=
  (sIf (mB (m2 pEq (mCall bLen (mCons (mL (mLc (mItems (mGet 6)) (gT 2 (gC (gN 9) (gC (gN 10) gE))) (mAndB (mB (m2 pLe (mGet 9) (mGet 8))) (mB (m2 pLe (mGet 8) (mGet 10)))) (mGet 9) [9, 10])) mNil)) (mC (.int 0))))
    (sRet (mC (.bool false)))
    sNx)
theorem u_law_is_cover_1 (ρ : Evn) : l_law_is_cover_1 ρ = (sIf (mB (m2 pEq (mCall bLen (mCons (mL (mLc (mItems (mGet 6)) (gT 2 (gC (gN 9) (gC (gN 10) gE))) (mAndB (mB (m2 pLe (mGet 9) (mGet 8))) (mB (m2 pLe (mGet 8) (mGet 10)))) (mGet 9) [9, 10])) mNil)) (mC (.int 0))))
    (sRet (mC (.bool false)))
    sNx) ρ := nr rfl
noncomputable def b_law_is_cover : Evn → RS :=
  (sThen (sAsg (mGet 0) (gT 3 (gC (gN 2) (gC (gN 3) (gC (gN 4) gE)))))
  (sThen (sIf (mB (m2 pGt (mCall bLen (mCons (mL (mLc (mWk rng2 (mCons (mC (.int 1)) (mCons (mCall bLen (mCons (mGet 1) mNil)) mNil))) (gN 5) (mB (m2 pLe (m2 pIdx (mGet 1) (mGet 5)) (m2 pIdx (mGet 1) (m2 pSub (mGet 5) (mC (.int 1)))))) (mGet 5) [5])) mNil)) (mC (.int 0))))
    (sRet (mC (.bool false)))
    sNx)
  (sThen (sSetO 6 (mDsp mNil))
  (sThen (sFor (mItems (mGet 1)) (gN 7) l_law_is_cover_0)
  (sThen (fun ρ => (sFor (mWk rng1 (mCons (m2 pAdd (mGet 3) (mC (.int 1))) mNil)) (gN 8) l_law_is_cover_1) (freeze 6 ρ))
  (sRet (mC (.bool true))))))))
noncomputable def m_law_is_cover : List PyData → RE PyData := fnM 2 11 b_law_is_cover
theorem ok_law_is_cover {P : Program} {w : World} {K : PySem.W.Frag} {mg : Str → Option Value} {base : Heap} {f : Addr} {fd : FuncData} (F : FnP K "_law_is_cover" s_law_is_cover f fd) (gl : mg "_law_is_cover" = some (.ref f)) (bi : Bi mg) (C_law_window : Cal P w K mg base 1 "_law_window" ["track", "piece"] m_law_window) : Cal P w K mg base 2 "_law_is_cover" ["track", "cover"] m_law_is_cover :=
  Cal.of (k := 1) F gl sc_law_is_cover (fun _ _ _ _ _ _ us hl => match us, hl with | [_, _], _ => rfl) fun cdv A outer s H E F0 hr => by
    have nd := sc_law_is_cover.nd; have tk := takesD (P := P) (w := w) (K := K) (mg := mg) (base := base) (N := N_law_is_cover) (qual := "_law_is_cover") (scope := defScope s_law_is_cover) (f := f) (cdv := cdv) (A := A) (outer := outer) (s := s) (H := H) (E := E); have po := passes_of (X := cxOf (L2.CX P w) P w K mg base N_law_is_cover "_law_is_cover" (defScope s_law_is_cover) f cdv A outer s H E) rfl; exact
    (vs_cons (vs_asg (ve_var 0) (vg_tup rfl (vgs_cons (vg_name 2 nd) (vgs_cons (vg_name 3 nd) (vgs_cons (vg_name 4 nd) vgs_nil)))))
  (vs_cons (vs_if (vt_cmp opv_gt (ve_callB cb_len rfl bi.l_len rfl (va_cons (VF.v (vf_lc rfl nd (vi_range2 rfl bi.l_range (va_cons ve_int (va_cons (ve_callB cb_len rfl bi.l_len rfl (va_cons (ve_var 1) va_nil)) va_nil))) (blkOk_by (own := [("k", 5)]) (N := N_law_is_cover) (sc := defScope s_law_is_cover) (by decide +kernel)) (fun _ _ _ _ _ => (vg_name 5 nd)) (fun _ _ _ _ _ => (vts_one (vt_cmp opv_le (ve_ix (ve_var 1) (ve_var 5)) (ve_ix (ve_var 1) (ve_op opv_sub (ve_var 5) ve_int))))) (fun _ _ _ _ _ => (ve_var 5)))) va_nil)) ve_int) (vs_one (vs_ret ve_bl)) vs_nil)
  (vs_cons (vs_setO 6 nd (vf_lst va_nil))
  (vs_cons (vs_for po rfl (vi_items (ve_var 1)) (vg_name 7 nd) (vs_cons (vs_if (VW.t (vw_or (vt_cmp opv_lt (ve_var 7) ve_int) (vw_or (vt_cmp opv_ge (ve_var 7) (ve_callB cb_len rfl bi.l_len rfl (va_cons (ve_var 4) va_nil))) (vw_or1 (vt_cmp opv_is (ve_cal C_law_window hr tk (va_cons (ve_var 0) (va_cons (ve_var 7) va_nil))) ve_non))))) (vs_one (vs_ret ve_bl)) vs_nil)
  (vs_one (vs_append 6 (ve_cal C_law_window hr tk (va_cons (ve_var 0) (va_cons (ve_var 7) va_nil)))))))
  (vs_cons (vs_freeze 6 (vs_for po rfl (vi_range1 rfl bi.l_range (va_cons (ve_op opv_add (ve_var 3) ve_int) va_nil)) (vg_name 8 nd) (vs_one (vs_if (vt_cmp (opv_eq hr) (ve_callB cb_len rfl bi.l_len rfl (va_cons (VF.v (vf_lc rfl nd (vi_items (ve_var 6)) (blkOk_by (own := [("first", 9), ("last", 10)]) (N := N_law_is_cover) (sc := defScope s_law_is_cover) (by decide +kernel)) (fun _ _ _ _ _ => (vg_tup rfl (vgs_cons (vg_name 9 nd) (vgs_cons (vg_name 10 nd) vgs_nil)))) (fun _ _ _ _ _ => (vts_one (VW.t (vw_and (vt_cmp opv_le (ve_var 9) (ve_var 8)) (vw_and1 (vt_cmp opv_le (ve_var 8) (ve_var 10))))))) (fun _ _ _ _ _ => (ve_var 9)))) va_nil)) ve_int) (vs_one (vs_ret ve_bl)) vs_nil))))
  (vs_one (vs_ret ve_bl)))))))
abbrev s_law_right : Stmt := top 26
abbrev N_law_right : List Str := ["track", "paper", "years", "plan", "cover", "piece"]
theorem sc_law_right : FnScope N_law_right ["track", "paper"] (defScope s_law_right) := ⟨rfl, rfl, rfl, by decide +kernel, rfl, by decide +kernel, by decide +kernel⟩
noncomputable def b_law_right : Evn → RS :=
  (sThen (sAsg (mGet 1) (gT 3 (gC (gN 2) (gC (gN 3) (gC (gN 4) gE)))))
  (sThen (sIf (mOrB (mNotB (mT (mSeq m_law_plan_holds (mCons (mGet 0) (mCons (mGet 3) mNil))))) (mNotB (mT (mSeq m_law_is_cover (mCons (mGet 0) (mCons (mGet 4) mNil))))))
    (sRet (mC (.bool false)))
    sNx)
  (sRet (mAnd (m2 pEq (mCall bSum (mCons (mGet 3) mNil)) (mGet 2)) (m2 pEq (mCall bSum (mCons (mL (mLc (mItems (mGet 4)) (gN 5) mYes (m2 pIdx (m2 pIdx (mGet 0) (mC (.int 2))) (mGet 5)) [5])) mNil)) (mGet 2))))))
noncomputable def m_law_right : List PyData → RE PyData := fnM 2 6 b_law_right
theorem ok_law_right {P : Program} {w : World} {K : PySem.W.Frag} {mg : Str → Option Value} {base : Heap} {f : Addr} {fd : FuncData} (F : FnP K "_law_right" s_law_right f fd) (gl : mg "_law_right" = some (.ref f)) (bi : Bi mg) (C_law_is_cover : Cal P w K mg base 2 "_law_is_cover" ["track", "cover"] m_law_is_cover) (C_law_plan_holds : Cal P w K mg base 1 "_law_plan_holds" ["track", "plan"] m_law_plan_holds) : Cal P w K mg base 3 "_law_right" ["track", "paper"] m_law_right :=
  Cal.of (k := 2) F gl sc_law_right (fun _ _ _ _ _ _ us hl => match us, hl with | [_, _], _ => rfl) fun cdv A outer s H E F0 hr => by
    have nd := sc_law_right.nd; have tk := takesD (P := P) (w := w) (K := K) (mg := mg) (base := base) (N := N_law_right) (qual := "_law_right") (scope := defScope s_law_right) (f := f) (cdv := cdv) (A := A) (outer := outer) (s := s) (H := H) (E := E); have po := passes_of (X := cxOf (L2.CX P w) P w K mg base N_law_right "_law_right" (defScope s_law_right) f cdv A outer s H E) rfl; exact
    (vs_cons (vs_asg (ve_var 1) (vg_tup rfl (vgs_cons (vg_name 2 nd) (vgs_cons (vg_name 3 nd) (vgs_cons (vg_name 4 nd) vgs_nil)))))
  (vs_cons (vs_if (VW.t (vw_or (vt_not (vt_truth (ve_cal C_law_plan_holds hr tk (va_cons (ve_var 0) (va_cons (ve_var 3) va_nil))))) (vw_or1 (vt_not (vt_truth (ve_cal C_law_is_cover hr tk (va_cons (ve_var 0) (va_cons (ve_var 4) va_nil)))))))) (vs_one (vs_ret ve_bl)) vs_nil)
  (vs_one (vs_ret (ve_and (ve_cmp (opv_eq hr) (ve_callB (cb_sum rfl) rfl bi.l_sum rfl (va_cons (ve_var 3) va_nil)) (ve_var 2)) (ve_one (ve_cmp (opv_eq hr) (ve_callB (cb_sum rfl) rfl bi.l_sum rfl (va_cons (VF.v (vf_lc rfl nd (vi_items (ve_var 4)) (blkOk_by (own := [("piece", 5)]) (N := N_law_right) (sc := defScope s_law_right) (by decide +kernel)) (fun _ _ _ _ _ => (vg_name 5 nd)) (fun _ _ _ _ _ => vts_nil) (fun _ _ _ _ _ => (ve_ix (ve_ix (ve_var 0) ve_int) (ve_var 5))))) va_nil)) (ve_var 2))))))))
abbrev s_is_whole : Stmt := top 1
abbrev N_is_whole : List Str := ["value"]
theorem sc_is_whole : FnScope N_is_whole ["value"] (defScope s_is_whole) := ⟨rfl, rfl, rfl, by decide +kernel, rfl, by decide +kernel, by decide +kernel⟩
noncomputable def b_is_whole : Evn → RS :=
  (sRet (mAnd (mIs Ty.int (mGet 0)) (m1 pNot (mIs Ty.bool (mGet 0)))))
noncomputable def m_is_whole : List PyData → RE PyData := fnM 1 1 b_is_whole
theorem ok_is_whole {P : Program} {w : World} {K : PySem.W.Frag} {mg : Str → Option Value} {base : Heap} {f : Addr} {fd : FuncData} (F : FnP K "is_whole" s_is_whole f fd) (gl : mg "is_whole" = some (.ref f)) (bi : Bi mg) : Cal P w K mg base 1 "is_whole" ["value"] m_is_whole :=
  Cal.of (k := 0) F gl sc_is_whole (fun _ _ _ _ _ _ us hl => match us, hl with | [_], _ => rfl) fun cdv A outer s H E F0 hr => by
    have nd := sc_is_whole.nd; have tk := takesD (P := P) (w := w) (K := K) (mg := mg) (base := base) (N := N_is_whole) (qual := "is_whole") (scope := defScope s_is_whole) (f := f) (cdv := cdv) (A := A) (outer := outer) (s := s) (H := H) (E := E); have po := passes_of (X := cxOf (L2.CX P w) P w K mg base N_is_whole "is_whole" (defScope s_is_whole) f cdv A outer s H E) rfl; exact
    (vs_one (vs_ret (ve_and (ve_isi (T := Ty.int) (by decide) (ve_var 0) rfl bi.l_isinstance rfl bi.l_int rfl) (ve_one (ve_not (ve_isi (T := Ty.bool) (by decide) (ve_var 0) rfl bi.l_isinstance rfl bi.l_bool rfl))))))
abbrev s_are_numbers : Stmt := top 6
abbrev N_are_numbers : List Str := ["values", "least", "value"]
theorem sc_are_numbers : FnScope N_are_numbers ["values", "least"] (defScope s_are_numbers) := ⟨rfl, rfl, rfl, by decide +kernel, rfl, by decide +kernel, by decide +kernel⟩
noncomputable def b_are_numbers : Evn → RS :=
  (sRet (mCall bAll (mCons (mL (mLc (mItems (mGet 0)) (gN 2) mYes (mAnd (mSeq m_is_whole (mCons (mGet 2) mNil)) (m2 pGe (mGet 2) (mGet 1))) [2])) mNil)))
noncomputable def m_are_numbers : List PyData → RE PyData := fnM 2 3 b_are_numbers
theorem ok_are_numbers {P : Program} {w : World} {K : PySem.W.Frag} {mg : Str → Option Value} {base : Heap} {f : Addr} {fd : FuncData} (F : FnP K "are_numbers" s_are_numbers f fd) (gl : mg "are_numbers" = some (.ref f)) (bi : Bi mg) (C_is_whole : Cal P w K mg base 1 "is_whole" ["value"] m_is_whole) : Cal P w K mg base 2 "are_numbers" ["values", "least"] m_are_numbers :=
  Cal.of (k := 1) F gl sc_are_numbers (fun _ _ _ _ _ _ us hl => match us, hl with | [_, _], _ => rfl) fun cdv A outer s H E F0 hr => by
    have nd := sc_are_numbers.nd; have tk := takesD (P := P) (w := w) (K := K) (mg := mg) (base := base) (N := N_are_numbers) (qual := "are_numbers") (scope := defScope s_are_numbers) (f := f) (cdv := cdv) (A := A) (outer := outer) (s := s) (H := H) (E := E); have po := passes_of (X := cxOf (L2.CX P w) P w K mg base N_are_numbers "are_numbers" (defScope s_are_numbers) f cdv A outer s H E) rfl; exact
    (vs_one (vs_ret (ve_callB (cb_all rfl) rfl bi.l_all rfl (va_cons (VF.v (vf_lc rfl nd (vi_items (ve_var 0)) (blkOk_by (own := [("value", 2)]) (N := N_are_numbers) (sc := defScope s_are_numbers) (by decide +kernel)) (fun _ _ _ _ _ => (vg_name 2 nd)) (fun _ _ _ _ _ => vts_nil) (fun _ _ _ _ _ => (ve_and (ve_cal C_is_whole hr takesN (va_cons (ve_var 2) va_nil)) (ve_one (ve_cmp opv_ge (ve_var 2) (ve_var 1))))))) va_nil))))
abbrev s_plan_holds : Stmt := top 10
abbrev N_plan_holds : List Str := ["track", "plan", "_", "spare", "left", "piece", "first", "last"]
theorem sc_plan_holds : FnScope N_plan_holds ["track", "plan"] (defScope s_plan_holds) := ⟨rfl, rfl, rfl, by decide +kernel, rfl, by decide +kernel, by decide +kernel⟩
noncomputable def b_plan_holds : Evn → RS :=
  (sThen (sAsg (mGet 0) (gT 3 (gC (gN 2) (gC (gN 3) (gC (gN 4) gE)))))
  (sThen (sIf (mOrB (mB (m2 pNe (mCall bLen (mCons (mGet 1) mNil)) (m2 pAdd (mGet 3) (mC (.int 1))))) (mNotB (mT (mSeq m_are_numbers (mCons (mGet 1) (mCons (mC (.int 0)) mNil))))))
    (sRet (mC (.bool false)))
    sNx)
  (sRet (mCall bAll (mCons (mL (mLc (mItems (mSeq m_windows (mCons (mGet 0) mNil))) (gT 3 (gC (gN 5) (gC (gN 6) (gC (gN 7) gE)))) mYes (m2 pLe (mCall bSum (mCons (mCut (mGet 1) (mPart (mGet 6)) (mPart (m2 pAdd (mGet 7) (mC (.int 1))))) mNil)) (m2 pIdx (mGet 4) (mGet 5))) [5, 6, 7])) mNil)))))
noncomputable def m_plan_holds : List PyData → RE PyData := fnM 2 8 b_plan_holds
theorem ok_plan_holds {P : Program} {w : World} {K : PySem.W.Frag} {mg : Str → Option Value} {base : Heap} {f : Addr} {fd : FuncData} (F : FnP K "plan_holds" s_plan_holds f fd) (gl : mg "plan_holds" = some (.ref f)) (bi : Bi mg) (C_are_numbers : Cal P w K mg base 2 "are_numbers" ["values", "least"] m_are_numbers) (C_windows : Cal P w K mg base 2 "windows" ["track"] m_windows) : Cal P w K mg base 3 "plan_holds" ["track", "plan"] m_plan_holds :=
  Cal.of (k := 2) F gl sc_plan_holds (fun _ _ _ _ _ _ us hl => match us, hl with | [_, _], _ => rfl) fun cdv A outer s H E F0 hr => by
    have nd := sc_plan_holds.nd; have tk := takesD (P := P) (w := w) (K := K) (mg := mg) (base := base) (N := N_plan_holds) (qual := "plan_holds") (scope := defScope s_plan_holds) (f := f) (cdv := cdv) (A := A) (outer := outer) (s := s) (H := H) (E := E); have po := passes_of (X := cxOf (L2.CX P w) P w K mg base N_plan_holds "plan_holds" (defScope s_plan_holds) f cdv A outer s H E) rfl; exact
    (vs_cons (vs_asg (ve_var 0) (vg_tup rfl (vgs_cons (vg_name 2 nd) (vgs_cons (vg_name 3 nd) (vgs_cons (vg_name 4 nd) vgs_nil)))))
  (vs_cons (vs_if (VW.t (vw_or (vt_cmp (opv_ne hr) (ve_callB cb_len rfl bi.l_len rfl (va_cons (ve_var 1) va_nil)) (ve_op opv_add (ve_var 3) ve_int)) (vw_or1 (vt_not (vt_truth (ve_cal C_are_numbers hr tk (va_cons (ve_var 1) (va_cons ve_int va_nil)))))))) (vs_one (vs_ret ve_bl)) vs_nil)
  (vs_one (vs_ret (ve_callB (cb_all rfl) rfl bi.l_all rfl (va_cons (VF.v (vf_lc rfl nd (vi_items (ve_cal C_windows hr tk (va_cons (ve_var 0) va_nil))) (blkOk_by (own := [("piece", 5), ("first", 6), ("last", 7)]) (N := N_plan_holds) (sc := defScope s_plan_holds) (by decide +kernel)) (fun _ _ _ _ _ => (vg_tup rfl (vgs_cons (vg_name 5 nd) (vgs_cons (vg_name 6 nd) (vgs_cons (vg_name 7 nd) vgs_nil))))) (fun _ _ _ _ _ => vts_nil) (fun _ _ _ _ _ => (ve_cmp opv_le (ve_callB (cb_sum rfl) rfl bi.l_sum rfl (va_cons (ve_cut (ve_var 1) (vo_some (ve_var 6)) (vo_some (ve_op opv_add (ve_var 7) ve_int))) va_nil)) (ve_ix (ve_var 4) (ve_var 5)))))) va_nil))))))
abbrev s_rises : Stmt := top 3
abbrev N_rises : List Str := ["numbers", "k"]
theorem sc_rises : FnScope N_rises ["numbers"] (defScope s_rises) := ⟨rfl, rfl, rfl, by decide +kernel, rfl, by decide +kernel, by decide +kernel⟩
noncomputable def b_rises : Evn → RS :=
  (sRet (mCall bAll (mCons (mL (mLc (mWk rng1 (mCons (m2 pSub (mCall bLen (mCons (mGet 0) mNil)) (mC (.int 1))) mNil)) (gN 1) mYes (m2 pLt (m2 pIdx (mGet 0) (mGet 1)) (m2 pIdx (mGet 0) (m2 pAdd (mGet 1) (mC (.int 1))))) [1])) mNil)))
noncomputable def m_rises : List PyData → RE PyData := fnM 1 2 b_rises
theorem ok_rises {P : Program} {w : World} {K : PySem.W.Frag} {mg : Str → Option Value} {base : Heap} {f : Addr} {fd : FuncData} (F : FnP K "rises" s_rises f fd) (gl : mg "rises" = some (.ref f)) (bi : Bi mg) : Cal P w K mg base 1 "rises" ["numbers"] m_rises :=
  Cal.of (k := 0) F gl sc_rises (fun _ _ _ _ _ _ us hl => match us, hl with | [_], _ => rfl) fun cdv A outer s H E F0 hr => by
    have nd := sc_rises.nd; have tk := takesD (P := P) (w := w) (K := K) (mg := mg) (base := base) (N := N_rises) (qual := "rises") (scope := defScope s_rises) (f := f) (cdv := cdv) (A := A) (outer := outer) (s := s) (H := H) (E := E); have po := passes_of (X := cxOf (L2.CX P w) P w K mg base N_rises "rises" (defScope s_rises) f cdv A outer s H E) rfl; exact
    (vs_one (vs_ret (ve_callB (cb_all rfl) rfl bi.l_all rfl (va_cons (VF.v (vf_lc rfl nd (vi_range1 rfl bi.l_range (va_cons (ve_op opv_sub (ve_callB cb_len rfl bi.l_len rfl (va_cons (ve_var 0) va_nil)) ve_int) va_nil)) (blkOk_by (own := [("k", 1)]) (N := N_rises) (sc := defScope s_rises) (by decide +kernel)) (fun _ _ _ _ _ => (vg_name 1 nd)) (fun _ _ _ _ _ => vts_nil) (fun _ _ _ _ _ => (ve_cmp opv_lt (ve_ix (ve_var 0) (ve_var 1)) (ve_ix (ve_var 0) (ve_op opv_add (ve_var 1) ve_int)))))) va_nil))))
abbrev s_is_index : Stmt := top 4
abbrev N_is_index : List Str := ["value", "count"]
theorem sc_is_index : FnScope N_is_index ["value", "count"] (defScope s_is_index) := ⟨rfl, rfl, rfl, by decide +kernel, rfl, by decide +kernel, by decide +kernel⟩
noncomputable def b_is_index : Evn → RS :=
  (sRet (mAnd (mSeq m_is_whole (mCons (mGet 0) mNil)) (mChain pLe pLt (mC (.int 0)) (mGet 0) (mGet 1))))
noncomputable def m_is_index : List PyData → RE PyData := fnM 2 2 b_is_index
theorem ok_is_index {P : Program} {w : World} {K : PySem.W.Frag} {mg : Str → Option Value} {base : Heap} {f : Addr} {fd : FuncData} (F : FnP K "is_index" s_is_index f fd) (gl : mg "is_index" = some (.ref f)) (C_is_whole : Cal P w K mg base 1 "is_whole" ["value"] m_is_whole) : Cal P w K mg base 2 "is_index" ["value", "count"] m_is_index :=
  Cal.of (k := 1) F gl sc_is_index (fun _ _ _ _ _ _ us hl => match us, hl with | [_, _], _ => rfl) fun cdv A outer s H E F0 hr => by
    have nd := sc_is_index.nd; have tk := takesD (P := P) (w := w) (K := K) (mg := mg) (base := base) (N := N_is_index) (qual := "is_index") (scope := defScope s_is_index) (f := f) (cdv := cdv) (A := A) (outer := outer) (s := s) (H := H) (E := E); have po := passes_of (X := cxOf (L2.CX P w) P w K mg base N_is_index "is_index" (defScope s_is_index) f cdv A outer s H E) rfl; exact
    (vs_one (vs_ret (ve_and (ve_cal C_is_whole hr tk (va_cons (ve_var 0) va_nil)) (ve_one (ve_chain opv_le opv_lt ve_int (ve_var 0) (ve_var 1))))))
abbrev s_are_indexes : Stmt := top 5
abbrev N_are_indexes : List Str := ["values", "count", "value"]
theorem sc_are_indexes : FnScope N_are_indexes ["values", "count"] (defScope s_are_indexes) := ⟨rfl, rfl, rfl, by decide +kernel, rfl, by decide +kernel, by decide +kernel⟩
noncomputable def b_are_indexes : Evn → RS :=
  (sRet (mAnd (mCall bAll (mCons (mL (mLc (mItems (mGet 0)) (gN 2) mYes (mSeq m_is_index (mCons (mGet 2) (mCons (mGet 1) mNil))) [2])) mNil)) (mSeq m_rises (mCons (mGet 0) mNil))))
noncomputable def m_are_indexes : List PyData → RE PyData := fnM 2 3 b_are_indexes
theorem ok_are_indexes {P : Program} {w : World} {K : PySem.W.Frag} {mg : Str → Option Value} {base : Heap} {f : Addr} {fd : FuncData} (F : FnP K "are_indexes" s_are_indexes f fd) (gl : mg "are_indexes" = some (.ref f)) (bi : Bi mg) (C_rises : Cal P w K mg base 1 "rises" ["numbers"] m_rises) (C_is_index : Cal P w K mg base 2 "is_index" ["value", "count"] m_is_index) : Cal P w K mg base 3 "are_indexes" ["values", "count"] m_are_indexes :=
  Cal.of (k := 2) F gl sc_are_indexes (fun _ _ _ _ _ _ us hl => match us, hl with | [_, _], _ => rfl) fun cdv A outer s H E F0 hr => by
    have nd := sc_are_indexes.nd; have tk := takesD (P := P) (w := w) (K := K) (mg := mg) (base := base) (N := N_are_indexes) (qual := "are_indexes") (scope := defScope s_are_indexes) (f := f) (cdv := cdv) (A := A) (outer := outer) (s := s) (H := H) (E := E); have po := passes_of (X := cxOf (L2.CX P w) P w K mg base N_are_indexes "are_indexes" (defScope s_are_indexes) f cdv A outer s H E) rfl; exact
    (vs_one (vs_ret (ve_and (ve_callB (cb_all rfl) rfl bi.l_all rfl (va_cons (VF.v (vf_lc rfl nd (vi_items (ve_var 0)) (blkOk_by (own := [("value", 2)]) (N := N_are_indexes) (sc := defScope s_are_indexes) (by decide +kernel)) (fun _ _ _ _ _ => (vg_name 2 nd)) (fun _ _ _ _ _ => vts_nil) (fun _ _ _ _ _ => (ve_cal C_is_index hr takesN (va_cons (ve_var 2) (va_cons (ve_var 1) va_nil)))))) va_nil)) (ve_one (ve_cal C_rises hr tk (va_cons (ve_var 0) va_nil))))))
abbrev s_is_cover : Stmt := top 11
abbrev N_is_cover : List Str := ["track", "cover", "_", "spare", "left", "some", "piece", "pair", "first", "last", "offset"]
theorem sc_is_cover : FnScope N_is_cover ["track", "cover"] (defScope s_is_cover) := ⟨rfl, rfl, rfl, by decide +kernel, rfl, by decide +kernel, by decide +kernel⟩
noncomputable def b_is_cover : Evn → RS :=
  (sThen (sAsg (mGet 0) (gT 3 (gC (gN 2) (gC (gN 3) (gC (gN 4) gE)))))
  (sThen (sIf (mNotB (mT (mSeq m_are_indexes (mCons (mGet 1) (mCons (mCall bLen (mCons (mGet 4) mNil)) mNil)))))
    (sRet (mC (.bool false)))
    sNx)
  (sThen (sSet 5 (mL (mLc (mItems (mGet 1)) (gN 6) mYes (mSeq m_window (mCons (mGet 0) (mCons (mGet 6) mNil))) [6])))
  (sThen (sIf (mNotB (mT (mCall bAll (mCons (mL (mLc (mItems (mGet 5)) (gN 7) mYes (m2 pIsNotN (mGet 7) (mC .none)) [7])) mNil))))
    (sRet (mC (.bool false)))
    sNx)
  (sRet (mCall bAll (mCons (mL (mLc (mWk rng1 (mCons (m2 pAdd (mGet 3) (mC (.int 1))) mNil)) (gN 10) mYes (mCall bAny (mCons (mL (mLc (mItems (mGet 5)) (gT 2 (gC (gN 8) (gC (gN 9) gE))) mYes (mChain pLe pLe (mGet 8) (mGet 10) (mGet 9)) [8, 9])) mNil)) [10])) mNil)))))))
noncomputable def m_is_cover : List PyData → RE PyData := fnM 2 11 b_is_cover
theorem ok_is_cover {P : Program} {w : World} {K : PySem.W.Frag} {mg : Str → Option Value} {base : Heap} {f : Addr} {fd : FuncData} (F : FnP K "is_cover" s_is_cover f fd) (gl : mg "is_cover" = some (.ref f)) (bi : Bi mg) (C_are_indexes : Cal P w K mg base 3 "are_indexes" ["values", "count"] m_are_indexes) (C_window : Cal P w K mg base 1 "window" ["track", "piece"] m_window) : Cal P w K mg base 4 "is_cover" ["track", "cover"] m_is_cover :=
  Cal.of (k := 3) F gl sc_is_cover (fun _ _ _ _ _ _ us hl => match us, hl with | [_, _], _ => rfl) fun cdv A outer s H E F0 hr => by
    have nd := sc_is_cover.nd; have tk := takesD (P := P) (w := w) (K := K) (mg := mg) (base := base) (N := N_is_cover) (qual := "is_cover") (scope := defScope s_is_cover) (f := f) (cdv := cdv) (A := A) (outer := outer) (s := s) (H := H) (E := E); have po := passes_of (X := cxOf (L2.CX P w) P w K mg base N_is_cover "is_cover" (defScope s_is_cover) f cdv A outer s H E) rfl; exact
    (vs_cons (vs_asg (ve_var 0) (vg_tup rfl (vgs_cons (vg_name 2 nd) (vgs_cons (vg_name 3 nd) (vgs_cons (vg_name 4 nd) vgs_nil)))))
  (vs_cons (vs_if (vt_not (vt_truth (ve_cal C_are_indexes hr tk (va_cons (ve_var 1) (va_cons (ve_callB cb_len rfl bi.l_len rfl (va_cons (ve_var 4) va_nil)) va_nil))))) (vs_one (vs_ret ve_bl)) vs_nil)
  (vs_cons (vs_set 5 nd (VF.v (vf_lc rfl nd (vi_items (ve_var 1)) (blkOk_by (own := [("piece", 6)]) (N := N_is_cover) (sc := defScope s_is_cover) (by decide +kernel)) (fun _ _ _ _ _ => (vg_name 6 nd)) (fun _ _ _ _ _ => vts_nil) (fun _ _ _ _ _ => (ve_cal C_window hr takesN (va_cons (ve_var 0) (va_cons (ve_var 6) va_nil)))))))
  (vs_cons (vs_if (vt_not (vt_truth (ve_callB (cb_all rfl) rfl bi.l_all rfl (va_cons (VF.v (vf_lc rfl nd (vi_items (ve_var 5)) (blkOk_by (own := [("pair", 7)]) (N := N_is_cover) (sc := defScope s_is_cover) (by decide +kernel)) (fun _ _ _ _ _ => (vg_name 7 nd)) (fun _ _ _ _ _ => vts_nil) (fun _ _ _ _ _ => (ve_cmp opv_isnot (ve_var 7) ve_non)))) va_nil)))) (vs_one (vs_ret ve_bl)) vs_nil)
  (vs_one (vs_ret (ve_callB (cb_all rfl) rfl bi.l_all rfl (va_cons (VF.v (vf_lc rfl nd (vi_range1 rfl bi.l_range (va_cons (ve_op opv_add (ve_var 3) ve_int) va_nil)) (blkOk_by (own := [("offset", 10)]) (N := N_is_cover) (sc := defScope s_is_cover) (by decide +kernel)) (fun _ _ _ _ _ => (vg_name 10 nd)) (fun _ _ _ _ _ => vts_nil) (fun _ _ _ _ _ => (ve_callB (cb_any rfl) rfl bi.l_any rfl (va_cons (VF.v (vf_lc rfl nd (vi_items (ve_var 5)) (blkOk_by (own := [("first", 8), ("last", 9)]) (N := N_is_cover) (by kernel_rfl)) (fun _ _ _ _ _ => (vg_tup rfl (vgs_cons (vg_name 8 nd) (vgs_cons (vg_name 9 nd) vgs_nil)))) (fun _ _ _ _ _ => vts_nil) (fun _ _ _ _ _ => (ve_chain opv_le opv_le (ve_var 8) (ve_var 10) (ve_var 9))))) va_nil))))) va_nil))))))))
abbrev s_judge_years : Stmt := top 17
abbrev N_judge_years : List Str := ["track", "paper", "years", "plan", "cover", "piece"]
theorem sc_judge_years : FnScope N_judge_years ["track", "paper"] (defScope s_judge_years) := ⟨rfl, rfl, rfl, by decide +kernel, rfl, by decide +kernel, by decide +kernel⟩
noncomputable def b_judge_years : Evn → RS :=
  (sThen (sAsg (mGet 1) (gT 3 (gC (gN 2) (gC (gN 3) (gC (gN 4) gE)))))
  (sThen (sIf (mOrB (mNotB (mT (mSeq m_plan_holds (mCons (mGet 0) (mCons (mGet 3) mNil))))) (mNotB (mT (mSeq m_is_cover (mCons (mGet 0) (mCons (mGet 4) mNil))))))
    (sRet (mC (.bool false)))
    sNx)
  (sRet (mAnd (m2 pEq (mCall bSum (mCons (mGet 3) mNil)) (mGet 2)) (m2 pEq (mCall bSum (mCons (mL (mLc (mItems (mGet 4)) (gN 5) mYes (m2 pIdx (m2 pIdx (mGet 0) (mC (.int 2))) (mGet 5)) [5])) mNil)) (mGet 2))))))
noncomputable def m_judge_years : List PyData → RE PyData := fnM 2 6 b_judge_years
theorem ok_judge_years {P : Program} {w : World} {K : PySem.W.Frag} {mg : Str → Option Value} {base : Heap} {f : Addr} {fd : FuncData} (F : FnP K "judge_years" s_judge_years f fd) (gl : mg "judge_years" = some (.ref f)) (bi : Bi mg) (C_is_cover : Cal P w K mg base 4 "is_cover" ["track", "cover"] m_is_cover) (C_plan_holds : Cal P w K mg base 3 "plan_holds" ["track", "plan"] m_plan_holds) : Cal P w K mg base 5 "judge_years" ["track", "paper"] m_judge_years :=
  Cal.of (k := 4) F gl sc_judge_years (fun _ _ _ _ _ _ us hl => match us, hl with | [_, _], _ => rfl) fun cdv A outer s H E F0 hr => by
    have nd := sc_judge_years.nd; have tk := takesD (P := P) (w := w) (K := K) (mg := mg) (base := base) (N := N_judge_years) (qual := "judge_years") (scope := defScope s_judge_years) (f := f) (cdv := cdv) (A := A) (outer := outer) (s := s) (H := H) (E := E); have po := passes_of (X := cxOf (L2.CX P w) P w K mg base N_judge_years "judge_years" (defScope s_judge_years) f cdv A outer s H E) rfl; exact
    (vs_cons (vs_asg (ve_var 1) (vg_tup rfl (vgs_cons (vg_name 2 nd) (vgs_cons (vg_name 3 nd) (vgs_cons (vg_name 4 nd) vgs_nil)))))
  (vs_cons (vs_if (VW.t (vw_or (vt_not (vt_truth (ve_cal C_plan_holds hr tk (va_cons (ve_var 0) (va_cons (ve_var 3) va_nil))))) (vw_or1 (vt_not (vt_truth (ve_cal C_is_cover hr tk (va_cons (ve_var 0) (va_cons (ve_var 4) va_nil)))))))) (vs_one (vs_ret ve_bl)) vs_nil)
  (vs_one (vs_ret (ve_and (ve_cmp (opv_eq hr) (ve_callB (cb_sum rfl) rfl bi.l_sum rfl (va_cons (ve_var 3) va_nil)) (ve_var 2)) (ve_one (ve_cmp (opv_eq hr) (ve_callB (cb_sum rfl) rfl bi.l_sum rfl (va_cons (VF.v (vf_lc rfl nd (vi_items (ve_var 4)) (blkOk_by (own := [("piece", 5)]) (N := N_judge_years) (sc := defScope s_judge_years) (by decide +kernel)) (fun _ _ _ _ _ => (vg_name 5 nd)) (fun _ _ _ _ _ => vts_nil) (fun _ _ _ _ _ => (ve_ix (ve_ix (ve_var 0) ve_int) (ve_var 5))))) va_nil)) (ve_var 2))))))))
abbrev s_law : Stmt := top 28
abbrev N_law : List Str := ["script", "picks", "track", "saddles", "spare", "left", "told", "due", "small", "years", "best", "piece", "more", "grown", "worn", "fewer", "window_v"]
theorem sc_law : FnScope N_law ["script"] (defScope s_law) := ⟨rfl, rfl, rfl, by decide +kernel, rfl, by decide +kernel, by decide +kernel⟩
noncomputable def b_law : Evn → RS :=
  (sThen (sSet 1 (mSeq m_law_draws (mCons (mGet 0) (mCons (mC (.int 0)) (mCons (mC (.int 8)) mNil)))))
  (sThen (sSet 2 (mSeq m_law_track (mCons (mGet 0) (mCons (mC (.int 1)) (mCons (mC (.int 13)) mNil)))))
  (sThen (sAsg (mGet 2) (gT 3 (gC (gN 3) (gC (gN 4) (gC (gN 5) gE)))))
  (sThen (sSet 6 (mSeq m_most_years (mCons (mSeq mTup (mCons (mCall bList (mCons (mGet 3) mNil)) (mCons (mGet 4) (mCons (mCall bList (mCons (mGet 5) mNil)) mNil)))) mNil)))
  (sThen (sSet 7 (mSeq m_law_paper (mCons (mGet 2) mNil)))
  (sThen (sIf (mOrB (mNotB (mT (mSeq (m_law_like 8) (mCons (mGet 6) (mCons (mGet 7) mNil))))) (mOrB (mNotB (mT (mSeq m_law_right (mCons (mGet 2) (mCons (mGet 7) mNil))))) (mB (m2 pIsNotB (mSeq m_judge_years (mCons (mGet 2) (mCons (mGet 6) mNil))) (mC (.bool true))))))
    (sRet (mC (.bool false)))
    sNx)
  (sThen (sIf (mB (m2 pLt (mGet 4) (mC (.int 3))))
    (sThen (sSet 8 (mSeq mTup (mCons (mGet 3) (mCons (mGet 4) (mCons (mL (mLc (mItems (mGet 5)) (gN 9) mYes (mCall bMin (mCons (mC (.int 3)) (mCons (mGet 9) mNil))) [9])) mNil)))))
    (sThen (sSet 10 (mSeq (m_law_best 8) (mCons (mGet 8) (mCons (mSeq mLst mNil) mNil))))
    (sIf (mNotB (mT (mSeq (m_law_like 8) (mCons (m2 pIdx (mSeq m_most_years (mCons (mGet 8) mNil)) (mC (.int 0))) (mCons (mGet 10) mNil)))))
      (sRet (mC (.bool false)))
      sNx)))
    sNx)
  (sThen (sSet 11 (m2 pMod (m2 pIdx (mGet 1) (mC (.int 0))) (mCall bLen (mCons (mGet 5) mNil))))
  (sThen (sSet 12 (mSeq mTup (mCons (mGet 3) (mCons (mGet 4) (mCons (m2 pAdd (m2 pAdd (mCut (mGet 5) (mPart (mC (.int 0))) (mPart (mGet 11))) (mSeq mLst (mCons (m2 pAdd (m2 pIdx (mGet 5) (mGet 11)) (mC (.int 1))) mNil))) (mCut (mGet 5) (mPart (m2 pAdd (mGet 11) (mC (.int 1)))) mNo)) mNil)))))
  (sThen (sSet 13 (mSeq m_most_years (mCons (mGet 12) mNil)))
  (sThen (sIf (mOrB (mNotB (mT (mSeq m_law_right (mCons (mGet 12) (mCons (mGet 13) mNil))))) (mOrB (mB (m2 pLt (m2 pIdx (mGet 13) (mC (.int 0))) (m2 pIdx (mGet 7) (mC (.int 0))))) (mB (m2 pGt (m2 pIdx (mGet 13) (mC (.int 0))) (m2 pAdd (m2 pIdx (mGet 7) (mC (.int 0))) (mC (.int 1)))))))
    (sRet (mC (.bool false)))
    sNx)
  (sThen (sSet 14 (mSeq mTup (mCons (mGet 3) (mCons (mGet 4) (mCons (m2 pAdd (m2 pAdd (mCut (mGet 5) (mPart (mC (.int 0))) (mPart (mGet 11))) (mSeq mLst (mCons (mC (.int 0)) mNil))) (mCut (mGet 5) (mPart (m2 pAdd (mGet 11) (mC (.int 1)))) mNo)) mNil)))))
  (sThen (sSet 15 (mSeq m_most_years (mCons (mGet 14) mNil)))
  (sThen (sSet 16 (mSeq m_law_window (mCons (mGet 2) (mCons (mGet 11) mNil))))
  (sThen (sIf (mOrB (mNotB (mT (mSeq m_law_right (mCons (mGet 14) (mCons (mGet 15) mNil))))) (mAndB (mB (m2 pIsNotN (mGet 16) (mC .none))) (mB (m2 pNe (mCall bSum (mCons (mCut (m2 pIdx (mGet 15) (mC (.int 1))) (mPart (m2 pIdx (mGet 16) (mC (.int 0)))) (mPart (m2 pAdd (m2 pIdx (mGet 16) (mC (.int 1))) (mC (.int 1))))) mNil)) (mC (.int 0))))))
    (sRet (mC (.bool false)))
    sNx)
  (sRet (mAnd (m2 pIsB (mSeq m_judge_years (mCons (mGet 12) (mCons (mGet 13) mNil))) (mC (.bool true))) (m2 pIsB (mSeq m_judge_years (mCons (mGet 14) (mCons (mGet 15) mNil))) (mC (.bool true))))))))))))))))))))
noncomputable def m_law : List PyData → RE PyData := fnM 1 17 b_law
theorem ok_law {P : Program} {w : World} {K : PySem.W.Frag} {mg : Str → Option Value} {base : Heap} {f : Addr} {fd : FuncData} (F : FnP K "law" s_law f fd) (bi : Bi mg) (C_law_draws : Cal P w K mg base 1 "_law_draws" ["script", "at", "count"] m_law_draws) (C_law_track : Cal P w K mg base 2 "_law_track" ["script", "at", "wide"] m_law_track) (C_most_years : Cal P w K mg base 5 "most_years" ["track"] m_most_years) (C_law_paper : Cal P w K mg base 2 "_law_paper" ["track"] m_law_paper) (C_judge_years : Cal P w K mg base 5 "judge_years" ["track", "paper"] m_judge_years) (C_law_right : Cal P w K mg base 3 "_law_right" ["track", "paper"] m_law_right) (C_law_like : Cal P w K mg base 9 "_law_like" ["told", "due"] (m_law_like 8)) (C_law_best : Cal P w K mg base 10 "_law_best" ["track", "plan"] (m_law_best 8)) (C_law_window : Cal P w K mg base 1 "_law_window" ["track", "piece"] m_law_window) : FnV P w K mg base 11 f fd ["script"] m_law :=
  FnV.ofP (k := 10) F sc_law fun cdv A outer s H E F0 hr => by
    have nd := sc_law.nd; have tk := takesD (P := P) (w := w) (K := K) (mg := mg) (base := base) (N := N_law) (qual := "law") (scope := defScope s_law) (f := f) (cdv := cdv) (A := A) (outer := outer) (s := s) (H := H) (E := E); have po := passes_of (X := cxOf (L2.CX P w) P w K mg base N_law "law" (defScope s_law) f cdv A outer s H E) rfl; exact
    (vs_cons (vs_set 1 nd (ve_cal C_law_draws hr tk (va_cons (ve_var 0) (va_cons ve_int (va_cons ve_int va_nil)))))
  (vs_cons (vs_set 2 nd (ve_cal C_law_track hr tk (va_cons (ve_var 0) (va_cons ve_int (va_cons ve_int va_nil)))))
  (vs_cons (vs_asg (ve_var 2) (vg_tup rfl (vgs_cons (vg_name 3 nd) (vgs_cons (vg_name 4 nd) (vgs_cons (vg_name 5 nd) vgs_nil)))))
  (vs_cons (vs_set 6 nd (ve_cal C_most_years hr tk (va_cons (ve_tup (va_cons (ve_callTy cb_list rfl bi.l_list rfl (va_cons (ve_var 3) va_nil)) (va_cons (ve_var 4) (va_cons (ve_callTy cb_list rfl bi.l_list rfl (va_cons (ve_var 5) va_nil)) va_nil)))) va_nil)))
  (vs_cons (vs_set 7 nd (ve_cal C_law_paper hr tk (va_cons (ve_var 2) va_nil)))
  (vs_cons (vs_if (VW.t (vw_or (vt_not (vt_truth (ve_cal C_law_like hr tk (va_cons (ve_var 6) (va_cons (ve_var 7) va_nil))))) (vw_or (vt_not (vt_truth (ve_cal C_law_right hr tk (va_cons (ve_var 2) (va_cons (ve_var 7) va_nil))))) (vw_or1 (vt_cmp opv_isnotb (ve_cal C_judge_years hr tk (va_cons (ve_var 2) (va_cons (ve_var 6) va_nil))) ve_bl))))) (vs_one (vs_ret ve_bl)) vs_nil)
  (vs_cons (vs_if (vt_cmp opv_lt (ve_var 4) ve_int) (vs_cons (vs_set 8 nd (ve_tup (va_cons (ve_var 3) (va_cons (ve_var 4) (va_cons (VF.v (vf_lc rfl nd (vi_items (ve_var 5)) (blkOk_by (own := [("years", 9)]) (N := N_law) (sc := defScope s_law) (by decide +kernel)) (fun _ _ _ _ _ => (vg_name 9 nd)) (fun _ _ _ _ _ => vts_nil) (fun _ _ _ _ _ => (ve_callB (cb_min rfl) rfl bi.l_min rfl (va_cons ve_int (va_cons (ve_var 9) va_nil)))))) va_nil)))))
    (vs_cons (vs_set 10 nd (ve_cal C_law_best hr tk (va_cons (ve_var 8) (va_cons (ve_lst va_nil) va_nil))))
    (vs_one (vs_if (vt_not (vt_truth (ve_cal C_law_like hr tk (va_cons (ve_ix (ve_cal C_most_years hr tk (va_cons (ve_var 8) va_nil)) ve_int) (va_cons (ve_var 10) va_nil))))) (vs_one (vs_ret ve_bl)) vs_nil)))) vs_nil)
  (vs_cons (vs_set 11 nd (ve_op opv_mod (ve_ix (ve_var 1) ve_int) (ve_callB cb_len rfl bi.l_len rfl (va_cons (ve_var 5) va_nil))))
  (vs_cons (vs_set 12 nd (ve_tup (va_cons (ve_var 3) (va_cons (ve_var 4) (va_cons (ve_op opv_add (ve_op opv_add (ve_cut (ve_var 5) (vo_some ve_int) (vo_some (ve_var 11))) (ve_lst (va_cons (ve_op opv_add (ve_ix (ve_var 5) (ve_var 11)) ve_int) va_nil))) (ve_cut (ve_var 5) (vo_some (ve_op opv_add (ve_var 11) ve_int)) vo_none)) va_nil)))))
  (vs_cons (vs_set 13 nd (ve_cal C_most_years hr tk (va_cons (ve_var 12) va_nil)))
  (vs_cons (vs_if (VW.t (vw_or (vt_not (vt_truth (ve_cal C_law_right hr tk (va_cons (ve_var 12) (va_cons (ve_var 13) va_nil))))) (vw_or (vt_cmp opv_lt (ve_ix (ve_var 13) ve_int) (ve_ix (ve_var 7) ve_int)) (vw_or1 (vt_cmp opv_gt (ve_ix (ve_var 13) ve_int) (ve_op opv_add (ve_ix (ve_var 7) ve_int) ve_int)))))) (vs_one (vs_ret ve_bl)) vs_nil)
  (vs_cons (vs_set 14 nd (ve_tup (va_cons (ve_var 3) (va_cons (ve_var 4) (va_cons (ve_op opv_add (ve_op opv_add (ve_cut (ve_var 5) (vo_some ve_int) (vo_some (ve_var 11))) (ve_lst (va_cons ve_int va_nil))) (ve_cut (ve_var 5) (vo_some (ve_op opv_add (ve_var 11) ve_int)) vo_none)) va_nil)))))
  (vs_cons (vs_set 15 nd (ve_cal C_most_years hr tk (va_cons (ve_var 14) va_nil)))
  (vs_cons (vs_set 16 nd (ve_cal C_law_window hr tk (va_cons (ve_var 2) (va_cons (ve_var 11) va_nil))))
  (vs_cons (vs_if (VW.t (vw_or (vt_not (vt_truth (ve_cal C_law_right hr tk (va_cons (ve_var 14) (va_cons (ve_var 15) va_nil))))) (vw_or1 (VW.t (vw_and (vt_cmp opv_isnot (ve_var 16) ve_non) (vw_and1 (vt_cmp (opv_ne hr) (ve_callB (cb_sum rfl) rfl bi.l_sum rfl (va_cons (ve_cut (ve_ix (ve_var 15) ve_int) (vo_some (ve_ix (ve_var 16) ve_int)) (vo_some (ve_op opv_add (ve_ix (ve_var 16) ve_int) ve_int))) va_nil)) ve_int))))))) (vs_one (vs_ret ve_bl)) vs_nil)
  (vs_one (vs_ret (ve_and (ve_cmp opv_isb (ve_cal C_judge_years hr tk (va_cons (ve_var 12) (va_cons (ve_var 13) va_nil))) ve_bl) (ve_one (ve_cmp opv_isb (ve_cal C_judge_years hr tk (va_cons (ve_var 14) (va_cons (ve_var 15) va_nil))) ve_bl))))))))))))))))))))
/-! ### the head -/
def d_law_draws : He.DefD := ⟨("_law_draws", none), "_law_draws", "_law_draws", defArgs s_law_draws, defBody s_law_draws, defScope s_law_draws, [], []⟩
def d_law_track : He.DefD := ⟨("_law_track", none), "_law_track", "_law_track", defArgs s_law_track, defBody s_law_track, defScope s_law_track, [], []⟩
def d_window : He.DefD := ⟨("window", none), "window", "window", defArgs s_window, defBody s_window, defScope s_window, [], []⟩
def d_windows : He.DefD := ⟨("windows", none), "windows", "windows", defArgs s_windows, defBody s_windows, defScope s_windows, [], []⟩
def d_least_needs : He.DefD := ⟨("least_needs", none), "least_needs", "least_needs", defArgs s_least_needs, defBody s_least_needs, defScope s_least_needs, [], []⟩
def d_last_of_cover : He.DefD := ⟨("last_of_cover", none), "last_of_cover", "last_of_cover", defArgs s_last_of_cover, defBody s_last_of_cover, defScope s_last_of_cover, [], []⟩
def d_least_cover : He.DefD := ⟨("least_cover", none), "least_cover", "least_cover", defArgs s_least_cover, defBody s_least_cover, defScope s_least_cover, [], []⟩
def d_most_years : He.DefD := ⟨("most_years", none), "most_years", "most_years", defArgs s_most_years, defBody s_most_years, defScope s_most_years, [], []⟩
def d_law_window : He.DefD := ⟨("_law_window", none), "_law_window", "_law_window", defArgs s_law_window, defBody s_law_window, defScope s_law_window, [], []⟩
def d_law_paper : He.DefD := ⟨("_law_paper", none), "_law_paper", "_law_paper", defArgs s_law_paper, defBody s_law_paper, defScope s_law_paper, [], []⟩
def d_law_plan_holds : He.DefD := ⟨("_law_plan_holds", none), "_law_plan_holds", "_law_plan_holds", defArgs s_law_plan_holds, defBody s_law_plan_holds, defScope s_law_plan_holds, [], []⟩
def d_law_best : He.DefD := ⟨("_law_best", none), "_law_best", "_law_best", defArgs s_law_best, defBody s_law_best, defScope s_law_best, [], []⟩
def d_law_like : He.DefD := ⟨("_law_like", none), "_law_like", "_law_like", defArgs s_law_like, defBody s_law_like, defScope s_law_like, [], []⟩
def d_law_is_cover : He.DefD := ⟨("_law_is_cover", none), "_law_is_cover", "_law_is_cover", defArgs s_law_is_cover, defBody s_law_is_cover, defScope s_law_is_cover, [], []⟩
def d_law_right : He.DefD := ⟨("_law_right", none), "_law_right", "_law_right", defArgs s_law_right, defBody s_law_right, defScope s_law_right, [], []⟩
def d_is_whole : He.DefD := ⟨("is_whole", none), "is_whole", "is_whole", defArgs s_is_whole, defBody s_is_whole, defScope s_is_whole, [], []⟩
def d_are_numbers : He.DefD := ⟨("are_numbers", none), "are_numbers", "are_numbers", defArgs s_are_numbers, defBody s_are_numbers, defScope s_are_numbers, [], []⟩
def d_plan_holds : He.DefD := ⟨("plan_holds", none), "plan_holds", "plan_holds", defArgs s_plan_holds, defBody s_plan_holds, defScope s_plan_holds, [], []⟩
def d_rises : He.DefD := ⟨("rises", none), "rises", "rises", defArgs s_rises, defBody s_rises, defScope s_rises, [], []⟩
def d_is_index : He.DefD := ⟨("is_index", none), "is_index", "is_index", defArgs s_is_index, defBody s_is_index, defScope s_is_index, [], []⟩
def d_are_indexes : He.DefD := ⟨("are_indexes", none), "are_indexes", "are_indexes", defArgs s_are_indexes, defBody s_are_indexes, defScope s_are_indexes, [], []⟩
def d_is_cover : He.DefD := ⟨("is_cover", none), "is_cover", "is_cover", defArgs s_is_cover, defBody s_is_cover, defScope s_is_cover, [], []⟩
def d_judge_years : He.DefD := ⟨("judge_years", none), "judge_years", "judge_years", defArgs s_judge_years, defBody s_judge_years, defScope s_judge_years, [], []⟩
def d_law : He.DefD := ⟨("law", none), "law", "law", defArgs s_law, defBody s_law, defScope s_law, [], []⟩
def fn : List He.DefD := [d_law_draws, d_law_track, d_window, d_windows, d_least_needs, d_last_of_cover, d_least_cover, d_most_years, d_law_window, d_law_paper, d_law_plan_holds, d_law_best, d_law_like, d_law_is_cover, d_law_right, d_is_whole, d_are_numbers, d_plan_holds, d_rises, d_is_index, d_are_indexes, d_is_cover, d_judge_years, d_law]
def fa : List He.Fa := [.glo "_law_draws", .glo "_law_track", .glo "window", .glo "windows", .glo "least_needs", .glo "last_of_cover", .glo "least_cover", .glo "most_years", .glo "_law_window", .glo "_law_paper", .glo "_law_plan_holds", .glo "_law_best", .glo "_law_like", .glo "_law_is_cover", .glo "_law_right", .glo "is_whole", .glo "are_numbers", .glo "plan_holds", .glo "rises", .glo "is_index", .glo "are_indexes", .glo "is_cover", .glo "judge_years", .glo "law", .free "all", .free "any", .free "bool", .free "int", .free "isinstance", .free "len", .free "list", .free "max", .free "min", .free "range", .free "sorted", .free "str", .free "sum", .free "tuple"]
abbrev Rw : PySem.W.OpenRow := PySem.W.OpenLaw.row PySem.Challenge.rw_ropesbear_k68_whole_most_years_on_saddle
def exb (K : PySem.W.Frag) : Bool := true
abbrev hk : PySem.W.Hook := He.hookX 4 fa fn [] [] exb
def ob (s : PySem.W.SharedT) : He.AlX := He.obsX 4 fa fn [] [] exb (HandSHeadRun.getT s)
theorem ob_eq (s : PySem.W.SharedT) : ob s = hk.obs s.abs := He.obsX_eq (HandSHeadRun.getT_eq s)
def loose : List Str := [("is_whole" : Str), ("rises" : Str), ("is_index" : Str), ("are_indexes" : Str), ("are_numbers" : Str), ("window" : Str), ("windows" : Str), ("plan_holds" : Str), ("is_cover" : Str), ("least_needs" : Str), ("last_of_cover" : Str), ("least_cover" : Str), ("most_years" : Str), ("judge_years" : Str), ("_law_draws" : Str), ("_law_like" : Str), ("_law_track" : Str), ("_law_window" : Str), ("_law_plan_holds" : Str), ("_law_is_cover" : Str), ("_law_paper" : Str), ("_law_right" : Str), ("_law_best" : Str)]
theorem run (w : World) : HandSHeadRun.RunEq Rw (PySem.W.view Rw.prog [28]) hk ob 2140 loose w := by
  intro os
  kernel_rfl
theorem facts {P : Program} {w : World} {K : PySem.W.Frag} {h : Heap} {mg : Str → Option Value} {f : Addr} (X : K.In h) (G : h.Ns mainGlobals mg) (hfa : mg ("law" : Str) = some (.ref f)) (c : He.SaysX fa fn [] [] exb w h K) :
    ∃ fd : FuncData, (∀ (s : Shared) (v : Value), BindsTo s fd ⟨[v], []⟩ [("script", v)]) ∧ ∀ base : Heap, K.In base → base.Ns mainGlobals mg → FnOk P w K mg base (L2.CX P w) 11 f fd ["script"] (SpV K mg 1 m_law) := by
  have cd := c.t.d
  obtain ⟨fd_law_draws, F_law_draws⟩ := cd.def_ 0 (d := d_law_draws) rfl
  have gl_law_draws := He.glo_ok X G (cd.fact 0 (f := .glo "_law_draws") rfl)
  obtain ⟨fd_law_track, F_law_track⟩ := cd.def_ 1 (d := d_law_track) rfl
  have gl_law_track := He.glo_ok X G (cd.fact 1 (f := .glo "_law_track") rfl)
  obtain ⟨fd_window, F_window⟩ := cd.def_ 2 (d := d_window) rfl
  have gl_window := He.glo_ok X G (cd.fact 2 (f := .glo "window") rfl)
  obtain ⟨fd_windows, F_windows⟩ := cd.def_ 3 (d := d_windows) rfl
  have gl_windows := He.glo_ok X G (cd.fact 3 (f := .glo "windows") rfl)
  obtain ⟨fd_least_needs, F_least_needs⟩ := cd.def_ 4 (d := d_least_needs) rfl
  have gl_least_needs := He.glo_ok X G (cd.fact 4 (f := .glo "least_needs") rfl)
  obtain ⟨fd_last_of_cover, F_last_of_cover⟩ := cd.def_ 5 (d := d_last_of_cover) rfl
  have gl_last_of_cover := He.glo_ok X G (cd.fact 5 (f := .glo "last_of_cover") rfl)
  obtain ⟨fd_least_cover, F_least_cover⟩ := cd.def_ 6 (d := d_least_cover) rfl
  have gl_least_cover := He.glo_ok X G (cd.fact 6 (f := .glo "least_cover") rfl)
  obtain ⟨fd_most_years, F_most_years⟩ := cd.def_ 7 (d := d_most_years) rfl
  have gl_most_years := He.glo_ok X G (cd.fact 7 (f := .glo "most_years") rfl)
  obtain ⟨fd_law_window, F_law_window⟩ := cd.def_ 8 (d := d_law_window) rfl
  have gl_law_window := He.glo_ok X G (cd.fact 8 (f := .glo "_law_window") rfl)
  obtain ⟨fd_law_paper, F_law_paper⟩ := cd.def_ 9 (d := d_law_paper) rfl
  have gl_law_paper := He.glo_ok X G (cd.fact 9 (f := .glo "_law_paper") rfl)
  obtain ⟨fd_law_plan_holds, F_law_plan_holds⟩ := cd.def_ 10 (d := d_law_plan_holds) rfl
  have gl_law_plan_holds := He.glo_ok X G (cd.fact 10 (f := .glo "_law_plan_holds") rfl)
  obtain ⟨fd_law_best, F_law_best⟩ := cd.def_ 11 (d := d_law_best) rfl
  have gl_law_best := He.glo_ok X G (cd.fact 11 (f := .glo "_law_best") rfl)
  obtain ⟨fd_law_like, F_law_like⟩ := cd.def_ 12 (d := d_law_like) rfl
  have gl_law_like := He.glo_ok X G (cd.fact 12 (f := .glo "_law_like") rfl)
  obtain ⟨fd_law_is_cover, F_law_is_cover⟩ := cd.def_ 13 (d := d_law_is_cover) rfl
  have gl_law_is_cover := He.glo_ok X G (cd.fact 13 (f := .glo "_law_is_cover") rfl)
  obtain ⟨fd_law_right, F_law_right⟩ := cd.def_ 14 (d := d_law_right) rfl
  have gl_law_right := He.glo_ok X G (cd.fact 14 (f := .glo "_law_right") rfl)
  obtain ⟨fd_is_whole, F_is_whole⟩ := cd.def_ 15 (d := d_is_whole) rfl
  have gl_is_whole := He.glo_ok X G (cd.fact 15 (f := .glo "is_whole") rfl)
  obtain ⟨fd_are_numbers, F_are_numbers⟩ := cd.def_ 16 (d := d_are_numbers) rfl
  have gl_are_numbers := He.glo_ok X G (cd.fact 16 (f := .glo "are_numbers") rfl)
  obtain ⟨fd_plan_holds, F_plan_holds⟩ := cd.def_ 17 (d := d_plan_holds) rfl
  have gl_plan_holds := He.glo_ok X G (cd.fact 17 (f := .glo "plan_holds") rfl)
  obtain ⟨fd_rises, F_rises⟩ := cd.def_ 18 (d := d_rises) rfl
  have gl_rises := He.glo_ok X G (cd.fact 18 (f := .glo "rises") rfl)
  obtain ⟨fd_is_index, F_is_index⟩ := cd.def_ 19 (d := d_is_index) rfl
  have gl_is_index := He.glo_ok X G (cd.fact 19 (f := .glo "is_index") rfl)
  obtain ⟨fd_are_indexes, F_are_indexes⟩ := cd.def_ 20 (d := d_are_indexes) rfl
  have gl_are_indexes := He.glo_ok X G (cd.fact 20 (f := .glo "are_indexes") rfl)
  obtain ⟨fd_is_cover, F_is_cover⟩ := cd.def_ 21 (d := d_is_cover) rfl
  have gl_is_cover := He.glo_ok X G (cd.fact 21 (f := .glo "is_cover") rfl)
  obtain ⟨fd_judge_years, F_judge_years⟩ := cd.def_ 22 (d := d_judge_years) rfl
  have gl_judge_years := He.glo_ok X G (cd.fact 22 (f := .glo "judge_years") rfl)
  obtain ⟨fd_law, F_law⟩ := cd.def_ 23 (d := d_law) rfl
  have gl_law := He.glo_ok X G (cd.fact 23 (f := .glo "law") rfl)
  have bi : Bi mg := ⟨He.free_ok X G (cd.fact 24 (f := .free "all") rfl), He.free_ok X G (cd.fact 25 (f := .free "any") rfl), He.free_ok X G (cd.fact 26 (f := .free "bool") rfl), He.free_ok X G (cd.fact 27 (f := .free "int") rfl), He.free_ok X G (cd.fact 28 (f := .free "isinstance") rfl), He.free_ok X G (cd.fact 29 (f := .free "len") rfl), He.free_ok X G (cd.fact 30 (f := .free "list") rfl), He.free_ok X G (cd.fact 31 (f := .free "max") rfl), He.free_ok X G (cd.fact 32 (f := .free "min") rfl), He.free_ok X G (cd.fact 33 (f := .free "range") rfl), He.free_ok X G (cd.fact 34 (f := .free "sorted") rfl), He.free_ok X G (cd.fact 35 (f := .free "str") rfl), He.free_ok X G (cd.fact 36 (f := .free "sum") rfl), He.free_ok X G (cd.fact 37 (f := .free "tuple") rfl)⟩
  have hex : exb K = true := c.more
  simp only [exb, Bool.and_eq_true] at hex
  have e := hfa.symm.trans gl_law
  cases e
  have b := FunD.bindsA (ps := ["script"]) F_law fun _ _ _ _ _ _ us hl => match us, hl with | [_], _ => rfl
  refine ⟨fd_law, fun s v => b s [v] rfl, fun base _ _ => ?_⟩
  have C_law_draws := ok_law_draws (P := P) (w := w) (base := base) F_law_draws gl_law_draws bi
  have C_law_track := ok_law_track (P := P) (w := w) (base := base) F_law_track gl_law_track bi C_law_draws
  have C_window := ok_window (P := P) (w := w) (base := base) F_window gl_window bi
  have C_windows := ok_windows (P := P) (w := w) (base := base) F_windows gl_windows bi C_window
  have C_least_needs := ok_least_needs (P := P) (w := w) (base := base) F_least_needs gl_least_needs bi C_windows
  have C_last_of_cover := ok_last_of_cover (P := P) (w := w) (base := base) F_last_of_cover gl_last_of_cover C_windows
  have C_least_cover := ok_least_cover (P := P) (w := w) (base := base) F_least_cover gl_least_cover bi C_last_of_cover
  have C_most_years := ok_most_years (P := P) (w := w) (base := base) F_most_years gl_most_years bi C_least_needs C_least_cover
  have C_law_window := ok_law_window (P := P) (w := w) (base := base) F_law_window gl_law_window bi
  have C_law_paper := ok_law_paper (P := P) (w := w) (base := base) F_law_paper gl_law_paper bi C_law_window
  have C_law_plan_holds := ok_law_plan_holds (P := P) (w := w) (base := base) F_law_plan_holds gl_law_plan_holds bi
  have C_law_best := ok_law_best (P := P) (w := w) (base := base) F_law_best gl_law_best bi C_law_plan_holds 8
  have C_law_like := ok_law_like (P := P) (w := w) (base := base) F_law_like gl_law_like bi 8
  have C_law_is_cover := ok_law_is_cover (P := P) (w := w) (base := base) F_law_is_cover gl_law_is_cover bi C_law_window
  have C_law_right := ok_law_right (P := P) (w := w) (base := base) F_law_right gl_law_right bi C_law_is_cover C_law_plan_holds
  have C_is_whole := ok_is_whole (P := P) (w := w) (base := base) F_is_whole gl_is_whole bi
  have C_are_numbers := ok_are_numbers (P := P) (w := w) (base := base) F_are_numbers gl_are_numbers bi C_is_whole
  have C_plan_holds := ok_plan_holds (P := P) (w := w) (base := base) F_plan_holds gl_plan_holds bi C_are_numbers C_windows
  have C_rises := ok_rises (P := P) (w := w) (base := base) F_rises gl_rises bi
  have C_is_index := ok_is_index (P := P) (w := w) (base := base) F_is_index gl_is_index C_is_whole
  have C_are_indexes := ok_are_indexes (P := P) (w := w) (base := base) F_are_indexes gl_are_indexes bi C_rises C_is_index
  have C_is_cover := ok_is_cover (P := P) (w := w) (base := base) F_is_cover gl_is_cover bi C_are_indexes C_window
  have C_judge_years := ok_judge_years (P := P) (w := w) (base := base) F_judge_years gl_judge_years bi C_is_cover C_plan_holds
  exact (ok_law (P := P) (w := w) (base := base) F_law bi C_law_draws C_law_track C_most_years C_law_paper C_judge_years C_law_right C_law_like C_law_best C_law_window).ok
end Law
end
section
set_option Elab.async false
set_option linter.all false
set_option maxRecDepth 100000
set_option maxHeartbeats 2000000
open PySem PV
namespace Law
/-! likeness of data that have a type -/
theorem like_nl (k : Nat) (u d : PyData) (h1 : isTy Ty.list d = false) (h2 : isTy Ty.tuple d = false) : m_law_like (k + 1) [u, d] = m_law_like 1 [u, d] := by
  unfold m_law_like
  rw [fn_go (n := 2) rfl, fn_go (n := 2) rfl]
  unfold b_law_like
  change bodyOut (sThen _ _ [some (.val u), some (.val d), none]) = bodyOut (sThen _ _ [some (.val u), some (.val d), none])
  have c : ∀ {s : List PyData → RE PyData} {g : Evn → RS}, sThen (sIf (mT (mIs2 Ty.list Ty.tuple (mGet 1))) (sThen (sIf (mOrB (mB (m2 pNe (mIs Ty.list (mGet 0)) (mIs Ty.list (mGet 1)))) (mB (m2 pNe (mIs Ty.tuple (mGet 0)) (mIs Ty.tuple (mGet 1))))) (sRet (mC (.bool false))) sNx) (sThen (sIf (mB (m2 pNe (mCall bLen (mCons (mGet 0) mNil)) (mCall bLen (mCons (mGet 1) mNil)))) (sRet (mC (.bool false))) sNx) (sThen (sFor (mWk rng1 (mCons (mCall bLen (mCons (mGet 1) mNil)) mNil)) (gN 2) (l_law_like_0 s)) (sRet (mC (.bool true)))))) sNx) g [some (.val u), some (.val d), none] = g [some (.val u), some (.val d), none] := fun {s g} => st_no (by simp (disch := omega) only [h1, h2, bind_ok, bind_bad, bind_exc, at_ok, at_exc, ofO_some, oS_some, nox_okk, g_v, g_s, go_v, go_s, ga_v, ga_o, ga_s, s_z, s_s, fz_o, fz_v, fz_s, e_mGet, e_mC, e_m2, e_m1, e_mT, e_mB, e_mAndB, e_mOrB, e_mNotB, e_mAnd, e_mOr, e_mIf, e_mChain, e_mNil, e_mCons, e_mSeq, e_mCall, e_mNo, e_mPart, e_mCut, e_mIs, e_mIs2, e_mL, e_mDsp, e_mRep, e_mBind, e_mIxO, e_mBor, e_mBorB, e_mItems, e_mWk, e_mRev, e_mYes, e_mLc, e_gN, e_gE, e_gC, e_gTt, e_gTl, e_sNx, e_sThen, e_sDrop, e_sRet, e_sSet, e_sIf, e_sFor, e_sAsg, e_sPar, e_sSetO, e_sSetL, e_ownAt, e_freeze, e_sApp, e_sSetIx, e_sAugIx, e_sAug, e_sPop, e_sPopTo, e_fnM, e_bo_rt, e_bo_nx, e_bo_exc, e_startE, e_wipe0, e_wipe1, d_add, d_addib, d_addl, d_addt, d_sub, d_mul, d_div, d_mod, d_pow, d_cmp, d_neg, d_not, d_iadd, d_iop, d_toB, d_toI, d_trB, d_trI, d_trN, d_trL, d_trT, d_lenL, d_lenT, d_intI, d_intB, d_abs, d_gcd, d_max2, d_min2, d_sumI, d_anyB, d_allB, d_maxL, d_minL, d_listL, d_listT, d_tupL, d_tupT, d_idxL, d_idxT, d_lstL, d_lstT, d_revL, d_itL, d_itT, d_rng1, d_rng2, d_enum1, d_zip2, d_rev1L, d_rev1T, d_cutL, d_cutT, d_rep, d_mTup, d_mLst, d_setD, d_scN, d_scB, d_scI, d_scS, d_isN, d_isNN, d_isB, d_isNB, d_nN, d_nB, d_nI, d_nS, d_nL, d_nT, if_true, if_false, ite_true, ite_false, reduceIte, List.length_cons, List.length_nil, Nat.zero_add, Nat.reduceAdd, Nat.reduceSub, Nat.reduceEqDiff, List.map_cons, List.map_nil, List.cons_append, List.nil_append, List.replicate, Option.map_some, Option.bind_some, Option.some.injEq, Bool.not_true, Bool.not_false, ne_eq, Bool.false_eq_true, Int.reduceEq, Int.reduceLT, Int.reduceLE, Int.reduceNeg, Int.reduceAdd, Int.reduceSub, Int.reduceMul, Int.reduceToNat, Int.toNat_natCast, Nat.reduceLT, Nat.reduceLeDiff, not_false_eq_true, not_true_eq_false, decide_true, decide_false, List.length_map, List.map_append, fmod_pos, fdiv_pos, and_true, true_and, and_self, Bool.and_true, Bool.or_false, Bool.and_false, Bool.or_true, Bool.true_and, Bool.false_and, ty_li_none, ty_li_bool, ty_li_int, ty_li_str, ty_li_list, ty_li_tuple, ty_tu_none, ty_tu_bool, ty_tu_int, ty_tu_str, ty_tu_list, ty_tu_tuple, ty_bo_none, ty_bo_bool, ty_bo_int, ty_bo_str, ty_bo_list, ty_bo_tuple, ty_in_none, ty_in_bool, ty_in_int, ty_in_str, ty_in_list, ty_in_tuple, ty_st_none, ty_st_bool, ty_st_int, ty_st_str, ty_st_list, ty_st_tuple, eq_int, ne_int, eq_bl, ne_bl, eq_st, ne_st, eq_li, ne_li, at_0, at_1, at_2, at_3, at_4, at_5, in_li, notin_li, c_z, c_s, gx_v, gx_s, e_mIsX, e_sTry, tc_ok, tc_exc, cm_nil, cm_cons, ex_ok, dx_nil, dx_v, dx_o, dx_x, dx_n, at_exx, Int.cast_ofNat_Int, e_mLrg1, e_mLrg2, d_lrg])
  rw [c, c]
theorem like_loop {k : Nat} {u v : PyData} {r : Int → Bool} : ∀ (is : List Int), (∀ i ∈ is, ∃ x y, pIdx u (.int i) = some x ∧ pIdx v (.int i) = some y ∧ m_law_like k [x, y] = .ok (.bool (r i))) → ∀ z, ∃ ρ', PV.forM (gN 2) (l_law_like_0 (m_law_like k)) (is.map PyData.int) [some (.val u), some (.val v), z] = .ok (if is.all r then .nx else .rt (.bool false), ρ')
  | [], _, z => ⟨_, rfl⟩
  | i :: is, h, z => by
    obtain ⟨x, y, h1, h2, h3⟩ := h i (List.mem_cons_self ..)
    obtain ⟨ρ', ih⟩ := like_loop is (fun j hj => h j (List.mem_cons_of_mem _ hj)) (some (.val (.int i)))
    rw [List.map_cons, forM_cons]
    cases c : r i with
    | true =>
      refine ⟨ρ', ?_⟩
      rw [c] at h3
      simp (disch := omega) only [u_law_like_0, h1, h2, h3, bind_ok, bind_bad, bind_exc, at_ok, at_exc, ofO_some, oS_some, nox_okk, g_v, g_s, go_v, go_s, ga_v, ga_o, ga_s, s_z, s_s, fz_o, fz_v, fz_s, e_mGet, e_mC, e_m2, e_m1, e_mT, e_mB, e_mAndB, e_mOrB, e_mNotB, e_mAnd, e_mOr, e_mIf, e_mChain, e_mNil, e_mCons, e_mSeq, e_mCall, e_mNo, e_mPart, e_mCut, e_mIs, e_mIs2, e_mL, e_mDsp, e_mRep, e_mBind, e_mIxO, e_mBor, e_mBorB, e_mItems, e_mWk, e_mRev, e_mYes, e_mLc, e_gN, e_gE, e_gC, e_gTt, e_gTl, e_sNx, e_sThen, e_sDrop, e_sRet, e_sSet, e_sIf, e_sFor, e_sAsg, e_sPar, e_sSetO, e_sSetL, e_ownAt, e_freeze, e_sApp, e_sSetIx, e_sAugIx, e_sAug, e_sPop, e_sPopTo, e_fnM, e_bo_rt, e_bo_nx, e_bo_exc, e_startE, e_wipe0, e_wipe1, d_add, d_addib, d_addl, d_addt, d_sub, d_mul, d_div, d_mod, d_pow, d_cmp, d_neg, d_not, d_iadd, d_iop, d_toB, d_toI, d_trB, d_trI, d_trN, d_trL, d_trT, d_lenL, d_lenT, d_intI, d_intB, d_abs, d_gcd, d_max2, d_min2, d_sumI, d_anyB, d_allB, d_maxL, d_minL, d_listL, d_listT, d_tupL, d_tupT, d_idxL, d_idxT, d_lstL, d_lstT, d_revL, d_itL, d_itT, d_rng1, d_rng2, d_enum1, d_zip2, d_rev1L, d_rev1T, d_cutL, d_cutT, d_rep, d_mTup, d_mLst, d_setD, d_scN, d_scB, d_scI, d_scS, d_isN, d_isNN, d_isB, d_isNB, d_nN, d_nB, d_nI, d_nS, d_nL, d_nT, if_true, if_false, ite_true, ite_false, reduceIte, List.length_cons, List.length_nil, Nat.zero_add, Nat.reduceAdd, Nat.reduceSub, Nat.reduceEqDiff, List.map_cons, List.map_nil, List.cons_append, List.nil_append, List.replicate, Option.map_some, Option.bind_some, Option.some.injEq, Bool.not_true, Bool.not_false, ne_eq, Bool.false_eq_true, Int.reduceEq, Int.reduceLT, Int.reduceLE, Int.reduceNeg, Int.reduceAdd, Int.reduceSub, Int.reduceMul, Int.reduceToNat, Int.toNat_natCast, Nat.reduceLT, Nat.reduceLeDiff, not_false_eq_true, not_true_eq_false, decide_true, decide_false, List.length_map, List.map_append, fmod_pos, fdiv_pos, and_true, true_and, and_self, Bool.and_true, Bool.or_false, Bool.and_false, Bool.or_true, Bool.true_and, Bool.false_and, ty_li_none, ty_li_bool, ty_li_int, ty_li_str, ty_li_list, ty_li_tuple, ty_tu_none, ty_tu_bool, ty_tu_int, ty_tu_str, ty_tu_list, ty_tu_tuple, ty_bo_none, ty_bo_bool, ty_bo_int, ty_bo_str, ty_bo_list, ty_bo_tuple, ty_in_none, ty_in_bool, ty_in_int, ty_in_str, ty_in_list, ty_in_tuple, ty_st_none, ty_st_bool, ty_st_int, ty_st_str, ty_st_list, ty_st_tuple, eq_int, ne_int, eq_bl, ne_bl, eq_st, ne_st, eq_li, ne_li, at_0, at_1, at_2, at_3, at_4, at_5, in_li, notin_li, c_z, c_s, gx_v, gx_s, e_mIsX, e_sTry, tc_ok, tc_exc, cm_nil, cm_cons, ex_ok, dx_nil, dx_v, dx_o, dx_x, dx_n, at_exx, Int.cast_ofNat_Int, e_mLrg1, e_mLrg2, d_lrg]
      rw [ih, List.all_cons, c]; rfl
    | false =>
      refine ⟨[some (.val u), some (.val v), some (.val (.int i))], ?_⟩
      rw [c] at h3
      simp (disch := omega) only [u_law_like_0, h1, h2, h3, bind_ok, bind_bad, bind_exc, at_ok, at_exc, ofO_some, oS_some, nox_okk, g_v, g_s, go_v, go_s, ga_v, ga_o, ga_s, s_z, s_s, fz_o, fz_v, fz_s, e_mGet, e_mC, e_m2, e_m1, e_mT, e_mB, e_mAndB, e_mOrB, e_mNotB, e_mAnd, e_mOr, e_mIf, e_mChain, e_mNil, e_mCons, e_mSeq, e_mCall, e_mNo, e_mPart, e_mCut, e_mIs, e_mIs2, e_mL, e_mDsp, e_mRep, e_mBind, e_mIxO, e_mBor, e_mBorB, e_mItems, e_mWk, e_mRev, e_mYes, e_mLc, e_gN, e_gE, e_gC, e_gTt, e_gTl, e_sNx, e_sThen, e_sDrop, e_sRet, e_sSet, e_sIf, e_sFor, e_sAsg, e_sPar, e_sSetO, e_sSetL, e_ownAt, e_freeze, e_sApp, e_sSetIx, e_sAugIx, e_sAug, e_sPop, e_sPopTo, e_fnM, e_bo_rt, e_bo_nx, e_bo_exc, e_startE, e_wipe0, e_wipe1, d_add, d_addib, d_addl, d_addt, d_sub, d_mul, d_div, d_mod, d_pow, d_cmp, d_neg, d_not, d_iadd, d_iop, d_toB, d_toI, d_trB, d_trI, d_trN, d_trL, d_trT, d_lenL, d_lenT, d_intI, d_intB, d_abs, d_gcd, d_max2, d_min2, d_sumI, d_anyB, d_allB, d_maxL, d_minL, d_listL, d_listT, d_tupL, d_tupT, d_idxL, d_idxT, d_lstL, d_lstT, d_revL, d_itL, d_itT, d_rng1, d_rng2, d_enum1, d_zip2, d_rev1L, d_rev1T, d_cutL, d_cutT, d_rep, d_mTup, d_mLst, d_setD, d_scN, d_scB, d_scI, d_scS, d_isN, d_isNN, d_isB, d_isNB, d_nN, d_nB, d_nI, d_nS, d_nL, d_nT, if_true, if_false, ite_true, ite_false, reduceIte, List.length_cons, List.length_nil, Nat.zero_add, Nat.reduceAdd, Nat.reduceSub, Nat.reduceEqDiff, List.map_cons, List.map_nil, List.cons_append, List.nil_append, List.replicate, Option.map_some, Option.bind_some, Option.some.injEq, Bool.not_true, Bool.not_false, ne_eq, Bool.false_eq_true, Int.reduceEq, Int.reduceLT, Int.reduceLE, Int.reduceNeg, Int.reduceAdd, Int.reduceSub, Int.reduceMul, Int.reduceToNat, Int.toNat_natCast, Nat.reduceLT, Nat.reduceLeDiff, not_false_eq_true, not_true_eq_false, decide_true, decide_false, List.length_map, List.map_append, fmod_pos, fdiv_pos, and_true, true_and, and_self, Bool.and_true, Bool.or_false, Bool.and_false, Bool.or_true, Bool.true_and, Bool.false_and, ty_li_none, ty_li_bool, ty_li_int, ty_li_str, ty_li_list, ty_li_tuple, ty_tu_none, ty_tu_bool, ty_tu_int, ty_tu_str, ty_tu_list, ty_tu_tuple, ty_bo_none, ty_bo_bool, ty_bo_int, ty_bo_str, ty_bo_list, ty_bo_tuple, ty_in_none, ty_in_bool, ty_in_int, ty_in_str, ty_in_list, ty_in_tuple, ty_st_none, ty_st_bool, ty_st_int, ty_st_str, ty_st_list, ty_st_tuple, eq_int, ne_int, eq_bl, ne_bl, eq_st, ne_st, eq_li, ne_li, at_0, at_1, at_2, at_3, at_4, at_5, in_li, notin_li, c_z, c_s, gx_v, gx_s, e_mIsX, e_sTry, tc_ok, tc_exc, cm_nil, cm_cons, ex_ok, dx_nil, dx_v, dx_o, dx_x, dx_n, at_exx, Int.cast_ofNat_Int, e_mLrg1, e_mLrg2, d_lrg]
      rw [List.all_cons, c]; rfl
theorem like_seq {k : Nat} {us vs : List PyData} {r : Int → Bool} (hl : us.length = vs.length) (hz : vs.length < 2 ^ 62) (h : ∀ i : Nat, ∀ (hu : i < us.length) (hv : i < vs.length), m_law_like k [us[i], vs[i]] = .ok (.bool (r i))) :
    m_law_like (k + 1) [.list us, .list vs] = .ok (.bool ((rngI 0 vs.length).all r)) ∧ m_law_like (k + 1) [.tuple us, .tuple vs] = .ok (.bool ((rngI 0 vs.length).all r)) := by
  have hr : r62 (vs.length : Int) := r62_s (by omega) (by omega)
  have key : ∀ (u v : PyData), (∀ i, pIdx u (.int i) = L2.atI us i) → (∀ i, pIdx v (.int i) = L2.atI vs i) → ∃ ρ', PV.forM (gN 2) (l_law_like_0 (m_law_like k)) (rangeL 0 vs.length) [some (.val u), some (.val v), none] = .ok (if (rngI 0 vs.length).all r then .nx else .rt (.bool false), ρ') := by
    intro u v hu hv
    have e : rangeL 0 vs.length = (rngI 0 vs.length).map PyData.int := by rw [← rngL_eq, Int.sub_zero, Int.toNat_natCast]
    rw [e]
    refine like_loop _ (fun i hi => ?_) none
    obtain ⟨i0, i1⟩ := rngI_mem.mp hi
    have a1 : i.toNat < us.length := by omega
    have a2 : i.toNat < vs.length := by omega
    refine ⟨us[i.toNat], vs[i.toNat], by rw [hu]; exact atI_ok i0 (List.getElem?_eq_getElem a1), by rw [hv]; exact atI_ok i0 (List.getElem?_eq_getElem a2), ?_⟩
    rw [h i.toNat a1 a2]
    have : ((i.toNat : Nat) : Int) = i := by omega
    rw [this]
  constructor
  · obtain ⟨ρ', h1⟩ := key (.list us) (.list vs) (fun _ => rfl) (fun _ => rfl)
    unfold m_law_like
    rw [fn_go (n := 2) rfl]
    unfold b_law_like
    change bodyOut (sThen _ _ [some (.val (.list us)), some (.val (.list vs)), none]) = _
    simp (disch := omega) only [hr, h1, hl, bind_ok, bind_bad, bind_exc, at_ok, at_exc, ofO_some, oS_some, nox_okk, g_v, g_s, go_v, go_s, ga_v, ga_o, ga_s, s_z, s_s, fz_o, fz_v, fz_s, e_mGet, e_mC, e_m2, e_m1, e_mT, e_mB, e_mAndB, e_mOrB, e_mNotB, e_mAnd, e_mOr, e_mIf, e_mChain, e_mNil, e_mCons, e_mSeq, e_mCall, e_mNo, e_mPart, e_mCut, e_mIs, e_mIs2, e_mL, e_mDsp, e_mRep, e_mBind, e_mIxO, e_mBor, e_mBorB, e_mItems, e_mWk, e_mRev, e_mYes, e_mLc, e_gN, e_gE, e_gC, e_gTt, e_gTl, e_sNx, e_sThen, e_sDrop, e_sRet, e_sSet, e_sIf, e_sFor, e_sAsg, e_sPar, e_sSetO, e_sSetL, e_ownAt, e_freeze, e_sApp, e_sSetIx, e_sAugIx, e_sAug, e_sPop, e_sPopTo, e_fnM, e_bo_rt, e_bo_nx, e_bo_exc, e_startE, e_wipe0, e_wipe1, d_add, d_addib, d_addl, d_addt, d_sub, d_mul, d_div, d_mod, d_pow, d_cmp, d_neg, d_not, d_iadd, d_iop, d_toB, d_toI, d_trB, d_trI, d_trN, d_trL, d_trT, d_lenL, d_lenT, d_intI, d_intB, d_abs, d_gcd, d_max2, d_min2, d_sumI, d_anyB, d_allB, d_maxL, d_minL, d_listL, d_listT, d_tupL, d_tupT, d_idxL, d_idxT, d_lstL, d_lstT, d_revL, d_itL, d_itT, d_rng1, d_rng2, d_enum1, d_zip2, d_rev1L, d_rev1T, d_cutL, d_cutT, d_rep, d_mTup, d_mLst, d_setD, d_scN, d_scB, d_scI, d_scS, d_isN, d_isNN, d_isB, d_isNB, d_nN, d_nB, d_nI, d_nS, d_nL, d_nT, if_true, if_false, ite_true, ite_false, reduceIte, List.length_cons, List.length_nil, Nat.zero_add, Nat.reduceAdd, Nat.reduceSub, Nat.reduceEqDiff, List.map_cons, List.map_nil, List.cons_append, List.nil_append, List.replicate, Option.map_some, Option.bind_some, Option.some.injEq, Bool.not_true, Bool.not_false, ne_eq, Bool.false_eq_true, Int.reduceEq, Int.reduceLT, Int.reduceLE, Int.reduceNeg, Int.reduceAdd, Int.reduceSub, Int.reduceMul, Int.reduceToNat, Int.toNat_natCast, Nat.reduceLT, Nat.reduceLeDiff, not_false_eq_true, not_true_eq_false, decide_true, decide_false, List.length_map, List.map_append, fmod_pos, fdiv_pos, and_true, true_and, and_self, Bool.and_true, Bool.or_false, Bool.and_false, Bool.or_true, Bool.true_and, Bool.false_and, ty_li_none, ty_li_bool, ty_li_int, ty_li_str, ty_li_list, ty_li_tuple, ty_tu_none, ty_tu_bool, ty_tu_int, ty_tu_str, ty_tu_list, ty_tu_tuple, ty_bo_none, ty_bo_bool, ty_bo_int, ty_bo_str, ty_bo_list, ty_bo_tuple, ty_in_none, ty_in_bool, ty_in_int, ty_in_str, ty_in_list, ty_in_tuple, ty_st_none, ty_st_bool, ty_st_int, ty_st_str, ty_st_list, ty_st_tuple, eq_int, ne_int, eq_bl, ne_bl, eq_st, ne_st, eq_li, ne_li, at_0, at_1, at_2, at_3, at_4, at_5, in_li, notin_li, c_z, c_s, gx_v, gx_s, e_mIsX, e_sTry, tc_ok, tc_exc, cm_nil, cm_cons, ex_ok, dx_nil, dx_v, dx_o, dx_x, dx_n, at_exx, Int.cast_ofNat_Int, e_mLrg1, e_mLrg2, d_lrg]
    cases c : (rngI 0 vs.length).all r <;> simp (disch := omega) only [c, bind_ok, bind_bad, bind_exc, at_ok, at_exc, ofO_some, oS_some, nox_okk, g_v, g_s, go_v, go_s, ga_v, ga_o, ga_s, s_z, s_s, fz_o, fz_v, fz_s, e_mGet, e_mC, e_m2, e_m1, e_mT, e_mB, e_mAndB, e_mOrB, e_mNotB, e_mAnd, e_mOr, e_mIf, e_mChain, e_mNil, e_mCons, e_mSeq, e_mCall, e_mNo, e_mPart, e_mCut, e_mIs, e_mIs2, e_mL, e_mDsp, e_mRep, e_mBind, e_mIxO, e_mBor, e_mBorB, e_mItems, e_mWk, e_mRev, e_mYes, e_mLc, e_gN, e_gE, e_gC, e_gTt, e_gTl, e_sNx, e_sThen, e_sDrop, e_sRet, e_sSet, e_sIf, e_sFor, e_sAsg, e_sPar, e_sSetO, e_sSetL, e_ownAt, e_freeze, e_sApp, e_sSetIx, e_sAugIx, e_sAug, e_sPop, e_sPopTo, e_fnM, e_bo_rt, e_bo_nx, e_bo_exc, e_startE, e_wipe0, e_wipe1, d_add, d_addib, d_addl, d_addt, d_sub, d_mul, d_div, d_mod, d_pow, d_cmp, d_neg, d_not, d_iadd, d_iop, d_toB, d_toI, d_trB, d_trI, d_trN, d_trL, d_trT, d_lenL, d_lenT, d_intI, d_intB, d_abs, d_gcd, d_max2, d_min2, d_sumI, d_anyB, d_allB, d_maxL, d_minL, d_listL, d_listT, d_tupL, d_tupT, d_idxL, d_idxT, d_lstL, d_lstT, d_revL, d_itL, d_itT, d_rng1, d_rng2, d_enum1, d_zip2, d_rev1L, d_rev1T, d_cutL, d_cutT, d_rep, d_mTup, d_mLst, d_setD, d_scN, d_scB, d_scI, d_scS, d_isN, d_isNN, d_isB, d_isNB, d_nN, d_nB, d_nI, d_nS, d_nL, d_nT, if_true, if_false, ite_true, ite_false, reduceIte, List.length_cons, List.length_nil, Nat.zero_add, Nat.reduceAdd, Nat.reduceSub, Nat.reduceEqDiff, List.map_cons, List.map_nil, List.cons_append, List.nil_append, List.replicate, Option.map_some, Option.bind_some, Option.some.injEq, Bool.not_true, Bool.not_false, ne_eq, Bool.false_eq_true, Int.reduceEq, Int.reduceLT, Int.reduceLE, Int.reduceNeg, Int.reduceAdd, Int.reduceSub, Int.reduceMul, Int.reduceToNat, Int.toNat_natCast, Nat.reduceLT, Nat.reduceLeDiff, not_false_eq_true, not_true_eq_false, decide_true, decide_false, List.length_map, List.map_append, fmod_pos, fdiv_pos, and_true, true_and, and_self, Bool.and_true, Bool.or_false, Bool.and_false, Bool.or_true, Bool.true_and, Bool.false_and, ty_li_none, ty_li_bool, ty_li_int, ty_li_str, ty_li_list, ty_li_tuple, ty_tu_none, ty_tu_bool, ty_tu_int, ty_tu_str, ty_tu_list, ty_tu_tuple, ty_bo_none, ty_bo_bool, ty_bo_int, ty_bo_str, ty_bo_list, ty_bo_tuple, ty_in_none, ty_in_bool, ty_in_int, ty_in_str, ty_in_list, ty_in_tuple, ty_st_none, ty_st_bool, ty_st_int, ty_st_str, ty_st_list, ty_st_tuple, eq_int, ne_int, eq_bl, ne_bl, eq_st, ne_st, eq_li, ne_li, at_0, at_1, at_2, at_3, at_4, at_5, in_li, notin_li, c_z, c_s, gx_v, gx_s, e_mIsX, e_sTry, tc_ok, tc_exc, cm_nil, cm_cons, ex_ok, dx_nil, dx_v, dx_o, dx_x, dx_n, at_exx, Int.cast_ofNat_Int, e_mLrg1, e_mLrg2, d_lrg]
  · obtain ⟨ρ', h1⟩ := key (.tuple us) (.tuple vs) (fun _ => rfl) (fun _ => rfl)
    unfold m_law_like
    rw [fn_go (n := 2) rfl]
    unfold b_law_like
    change bodyOut (sThen _ _ [some (.val (.tuple us)), some (.val (.tuple vs)), none]) = _
    simp (disch := omega) only [hr, h1, hl, bind_ok, bind_bad, bind_exc, at_ok, at_exc, ofO_some, oS_some, nox_okk, g_v, g_s, go_v, go_s, ga_v, ga_o, ga_s, s_z, s_s, fz_o, fz_v, fz_s, e_mGet, e_mC, e_m2, e_m1, e_mT, e_mB, e_mAndB, e_mOrB, e_mNotB, e_mAnd, e_mOr, e_mIf, e_mChain, e_mNil, e_mCons, e_mSeq, e_mCall, e_mNo, e_mPart, e_mCut, e_mIs, e_mIs2, e_mL, e_mDsp, e_mRep, e_mBind, e_mIxO, e_mBor, e_mBorB, e_mItems, e_mWk, e_mRev, e_mYes, e_mLc, e_gN, e_gE, e_gC, e_gTt, e_gTl, e_sNx, e_sThen, e_sDrop, e_sRet, e_sSet, e_sIf, e_sFor, e_sAsg, e_sPar, e_sSetO, e_sSetL, e_ownAt, e_freeze, e_sApp, e_sSetIx, e_sAugIx, e_sAug, e_sPop, e_sPopTo, e_fnM, e_bo_rt, e_bo_nx, e_bo_exc, e_startE, e_wipe0, e_wipe1, d_add, d_addib, d_addl, d_addt, d_sub, d_mul, d_div, d_mod, d_pow, d_cmp, d_neg, d_not, d_iadd, d_iop, d_toB, d_toI, d_trB, d_trI, d_trN, d_trL, d_trT, d_lenL, d_lenT, d_intI, d_intB, d_abs, d_gcd, d_max2, d_min2, d_sumI, d_anyB, d_allB, d_maxL, d_minL, d_listL, d_listT, d_tupL, d_tupT, d_idxL, d_idxT, d_lstL, d_lstT, d_revL, d_itL, d_itT, d_rng1, d_rng2, d_enum1, d_zip2, d_rev1L, d_rev1T, d_cutL, d_cutT, d_rep, d_mTup, d_mLst, d_setD, d_scN, d_scB, d_scI, d_scS, d_isN, d_isNN, d_isB, d_isNB, d_nN, d_nB, d_nI, d_nS, d_nL, d_nT, if_true, if_false, ite_true, ite_false, reduceIte, List.length_cons, List.length_nil, Nat.zero_add, Nat.reduceAdd, Nat.reduceSub, Nat.reduceEqDiff, List.map_cons, List.map_nil, List.cons_append, List.nil_append, List.replicate, Option.map_some, Option.bind_some, Option.some.injEq, Bool.not_true, Bool.not_false, ne_eq, Bool.false_eq_true, Int.reduceEq, Int.reduceLT, Int.reduceLE, Int.reduceNeg, Int.reduceAdd, Int.reduceSub, Int.reduceMul, Int.reduceToNat, Int.toNat_natCast, Nat.reduceLT, Nat.reduceLeDiff, not_false_eq_true, not_true_eq_false, decide_true, decide_false, List.length_map, List.map_append, fmod_pos, fdiv_pos, and_true, true_and, and_self, Bool.and_true, Bool.or_false, Bool.and_false, Bool.or_true, Bool.true_and, Bool.false_and, ty_li_none, ty_li_bool, ty_li_int, ty_li_str, ty_li_list, ty_li_tuple, ty_tu_none, ty_tu_bool, ty_tu_int, ty_tu_str, ty_tu_list, ty_tu_tuple, ty_bo_none, ty_bo_bool, ty_bo_int, ty_bo_str, ty_bo_list, ty_bo_tuple, ty_in_none, ty_in_bool, ty_in_int, ty_in_str, ty_in_list, ty_in_tuple, ty_st_none, ty_st_bool, ty_st_int, ty_st_str, ty_st_list, ty_st_tuple, eq_int, ne_int, eq_bl, ne_bl, eq_st, ne_st, eq_li, ne_li, at_0, at_1, at_2, at_3, at_4, at_5, in_li, notin_li, c_z, c_s, gx_v, gx_s, e_mIsX, e_sTry, tc_ok, tc_exc, cm_nil, cm_cons, ex_ok, dx_nil, dx_v, dx_o, dx_x, dx_n, at_exx, Int.cast_ofNat_Int, e_mLrg1, e_mLrg2, d_lrg]
    cases c : (rngI 0 vs.length).all r <;> simp (disch := omega) only [c, bind_ok, bind_bad, bind_exc, at_ok, at_exc, ofO_some, oS_some, nox_okk, g_v, g_s, go_v, go_s, ga_v, ga_o, ga_s, s_z, s_s, fz_o, fz_v, fz_s, e_mGet, e_mC, e_m2, e_m1, e_mT, e_mB, e_mAndB, e_mOrB, e_mNotB, e_mAnd, e_mOr, e_mIf, e_mChain, e_mNil, e_mCons, e_mSeq, e_mCall, e_mNo, e_mPart, e_mCut, e_mIs, e_mIs2, e_mL, e_mDsp, e_mRep, e_mBind, e_mIxO, e_mBor, e_mBorB, e_mItems, e_mWk, e_mRev, e_mYes, e_mLc, e_gN, e_gE, e_gC, e_gTt, e_gTl, e_sNx, e_sThen, e_sDrop, e_sRet, e_sSet, e_sIf, e_sFor, e_sAsg, e_sPar, e_sSetO, e_sSetL, e_ownAt, e_freeze, e_sApp, e_sSetIx, e_sAugIx, e_sAug, e_sPop, e_sPopTo, e_fnM, e_bo_rt, e_bo_nx, e_bo_exc, e_startE, e_wipe0, e_wipe1, d_add, d_addib, d_addl, d_addt, d_sub, d_mul, d_div, d_mod, d_pow, d_cmp, d_neg, d_not, d_iadd, d_iop, d_toB, d_toI, d_trB, d_trI, d_trN, d_trL, d_trT, d_lenL, d_lenT, d_intI, d_intB, d_abs, d_gcd, d_max2, d_min2, d_sumI, d_anyB, d_allB, d_maxL, d_minL, d_listL, d_listT, d_tupL, d_tupT, d_idxL, d_idxT, d_lstL, d_lstT, d_revL, d_itL, d_itT, d_rng1, d_rng2, d_enum1, d_zip2, d_rev1L, d_rev1T, d_cutL, d_cutT, d_rep, d_mTup, d_mLst, d_setD, d_scN, d_scB, d_scI, d_scS, d_isN, d_isNN, d_isB, d_isNB, d_nN, d_nB, d_nI, d_nS, d_nL, d_nT, if_true, if_false, ite_true, ite_false, reduceIte, List.length_cons, List.length_nil, Nat.zero_add, Nat.reduceAdd, Nat.reduceSub, Nat.reduceEqDiff, List.map_cons, List.map_nil, List.cons_append, List.nil_append, List.replicate, Option.map_some, Option.bind_some, Option.some.injEq, Bool.not_true, Bool.not_false, ne_eq, Bool.false_eq_true, Int.reduceEq, Int.reduceLT, Int.reduceLE, Int.reduceNeg, Int.reduceAdd, Int.reduceSub, Int.reduceMul, Int.reduceToNat, Int.toNat_natCast, Nat.reduceLT, Nat.reduceLeDiff, not_false_eq_true, not_true_eq_false, decide_true, decide_false, List.length_map, List.map_append, fmod_pos, fdiv_pos, and_true, true_and, and_self, Bool.and_true, Bool.or_false, Bool.and_false, Bool.or_true, Bool.true_and, Bool.false_and, ty_li_none, ty_li_bool, ty_li_int, ty_li_str, ty_li_list, ty_li_tuple, ty_tu_none, ty_tu_bool, ty_tu_int, ty_tu_str, ty_tu_list, ty_tu_tuple, ty_bo_none, ty_bo_bool, ty_bo_int, ty_bo_str, ty_bo_list, ty_bo_tuple, ty_in_none, ty_in_bool, ty_in_int, ty_in_str, ty_in_list, ty_in_tuple, ty_st_none, ty_st_bool, ty_st_int, ty_st_str, ty_st_list, ty_st_tuple, eq_int, ne_int, eq_bl, ne_bl, eq_st, ne_st, eq_li, ne_li, at_0, at_1, at_2, at_3, at_4, at_5, in_li, notin_li, c_z, c_s, gx_v, gx_s, e_mIsX, e_sTry, tc_ok, tc_exc, cm_nil, cm_cons, ex_ok, dx_nil, dx_v, dx_o, dx_x, dx_n, at_exx, Int.cast_ofNat_Int, e_mLrg1, e_mLrg2, d_lrg]
theorem like_len {k : Nat} {us vs : List PyData} (hl : us.length ≠ vs.length) : m_law_like (k + 1) [.list us, .list vs] = .ok (.bool false) := by
  have hl' : ¬ ((us.length : Int) = vs.length) := by omega
  unfold m_law_like
  rw [fn_go (n := 2) rfl]
  unfold b_law_like
  change bodyOut (sThen _ _ [some (.val (.list us)), some (.val (.list vs)), none]) = _
  simp (disch := omega) only [hl', bind_ok, bind_bad, bind_exc, at_ok, at_exc, ofO_some, oS_some, nox_okk, g_v, g_s, go_v, go_s, ga_v, ga_o, ga_s, s_z, s_s, fz_o, fz_v, fz_s, e_mGet, e_mC, e_m2, e_m1, e_mT, e_mB, e_mAndB, e_mOrB, e_mNotB, e_mAnd, e_mOr, e_mIf, e_mChain, e_mNil, e_mCons, e_mSeq, e_mCall, e_mNo, e_mPart, e_mCut, e_mIs, e_mIs2, e_mL, e_mDsp, e_mRep, e_mBind, e_mIxO, e_mBor, e_mBorB, e_mItems, e_mWk, e_mRev, e_mYes, e_mLc, e_gN, e_gE, e_gC, e_gTt, e_gTl, e_sNx, e_sThen, e_sDrop, e_sRet, e_sSet, e_sIf, e_sFor, e_sAsg, e_sPar, e_sSetO, e_sSetL, e_ownAt, e_freeze, e_sApp, e_sSetIx, e_sAugIx, e_sAug, e_sPop, e_sPopTo, e_fnM, e_bo_rt, e_bo_nx, e_bo_exc, e_startE, e_wipe0, e_wipe1, d_add, d_addib, d_addl, d_addt, d_sub, d_mul, d_div, d_mod, d_pow, d_cmp, d_neg, d_not, d_iadd, d_iop, d_toB, d_toI, d_trB, d_trI, d_trN, d_trL, d_trT, d_lenL, d_lenT, d_intI, d_intB, d_abs, d_gcd, d_max2, d_min2, d_sumI, d_anyB, d_allB, d_maxL, d_minL, d_listL, d_listT, d_tupL, d_tupT, d_idxL, d_idxT, d_lstL, d_lstT, d_revL, d_itL, d_itT, d_rng1, d_rng2, d_enum1, d_zip2, d_rev1L, d_rev1T, d_cutL, d_cutT, d_rep, d_mTup, d_mLst, d_setD, d_scN, d_scB, d_scI, d_scS, d_isN, d_isNN, d_isB, d_isNB, d_nN, d_nB, d_nI, d_nS, d_nL, d_nT, if_true, if_false, ite_true, ite_false, reduceIte, List.length_cons, List.length_nil, Nat.zero_add, Nat.reduceAdd, Nat.reduceSub, Nat.reduceEqDiff, List.map_cons, List.map_nil, List.cons_append, List.nil_append, List.replicate, Option.map_some, Option.bind_some, Option.some.injEq, Bool.not_true, Bool.not_false, ne_eq, Bool.false_eq_true, Int.reduceEq, Int.reduceLT, Int.reduceLE, Int.reduceNeg, Int.reduceAdd, Int.reduceSub, Int.reduceMul, Int.reduceToNat, Int.toNat_natCast, Nat.reduceLT, Nat.reduceLeDiff, not_false_eq_true, not_true_eq_false, decide_true, decide_false, List.length_map, List.map_append, fmod_pos, fdiv_pos, and_true, true_and, and_self, Bool.and_true, Bool.or_false, Bool.and_false, Bool.or_true, Bool.true_and, Bool.false_and, ty_li_none, ty_li_bool, ty_li_int, ty_li_str, ty_li_list, ty_li_tuple, ty_tu_none, ty_tu_bool, ty_tu_int, ty_tu_str, ty_tu_list, ty_tu_tuple, ty_bo_none, ty_bo_bool, ty_bo_int, ty_bo_str, ty_bo_list, ty_bo_tuple, ty_in_none, ty_in_bool, ty_in_int, ty_in_str, ty_in_list, ty_in_tuple, ty_st_none, ty_st_bool, ty_st_int, ty_st_str, ty_st_list, ty_st_tuple, eq_int, ne_int, eq_bl, ne_bl, eq_st, ne_st, eq_li, ne_li, at_0, at_1, at_2, at_3, at_4, at_5, in_li, notin_li, c_z, c_s, gx_v, gx_s, e_mIsX, e_sTry, tc_ok, tc_exc, cm_nil, cm_cons, ex_ok, dx_nil, dx_v, dx_o, dx_x, dx_n, at_exx, Int.cast_ofNat_Int, e_mLrg1, e_mLrg2, d_lrg]
structure LkE {α : Type} [DecidableEq α] (e : α → PyData) : Prop where
  lk : ∀ (k : Nat) (a b : α), plainD k (e b) → m_law_like k [e a, e b] = .ok (.bool (decide (a = b)))
theorem like_ok {α : Type} [DecidableEq α] {e : α → PyData} {a b : α} {k : Nat} (h : LkE e) (hp : plainD k (e b)) : m_law_like k [e a, e b] = .ok (.bool (decide (a = b))) := h.lk k a b hp
theorem lke_I : LkE PyData.int := ⟨fun k a b hp => by
  obtain ⟨k, rfl⟩ : ∃ j, k = j + 1 := by cases k with
    | zero => exact hp.elim
    | succ j => exact ⟨j, rfl⟩
  rw [like_nl k _ _ rfl rfl]
  unfold m_law_like
  rw [fn_go (n := 2) rfl]
  unfold b_law_like
  change bodyOut (sThen _ _ [some (.val (.int a)), some (.val (.int b)), none]) = _
  simp (disch := omega) only [bind_ok, bind_bad, bind_exc, at_ok, at_exc, ofO_some, oS_some, nox_okk, g_v, g_s, go_v, go_s, ga_v, ga_o, ga_s, s_z, s_s, fz_o, fz_v, fz_s, e_mGet, e_mC, e_m2, e_m1, e_mT, e_mB, e_mAndB, e_mOrB, e_mNotB, e_mAnd, e_mOr, e_mIf, e_mChain, e_mNil, e_mCons, e_mSeq, e_mCall, e_mNo, e_mPart, e_mCut, e_mIs, e_mIs2, e_mL, e_mDsp, e_mRep, e_mBind, e_mIxO, e_mBor, e_mBorB, e_mItems, e_mWk, e_mRev, e_mYes, e_mLc, e_gN, e_gE, e_gC, e_gTt, e_gTl, e_sNx, e_sThen, e_sDrop, e_sRet, e_sSet, e_sIf, e_sFor, e_sAsg, e_sPar, e_sSetO, e_sSetL, e_ownAt, e_freeze, e_sApp, e_sSetIx, e_sAugIx, e_sAug, e_sPop, e_sPopTo, e_fnM, e_bo_rt, e_bo_nx, e_bo_exc, e_startE, e_wipe0, e_wipe1, d_add, d_addib, d_addl, d_addt, d_sub, d_mul, d_div, d_mod, d_pow, d_cmp, d_neg, d_not, d_iadd, d_iop, d_toB, d_toI, d_trB, d_trI, d_trN, d_trL, d_trT, d_lenL, d_lenT, d_intI, d_intB, d_abs, d_gcd, d_max2, d_min2, d_sumI, d_anyB, d_allB, d_maxL, d_minL, d_listL, d_listT, d_tupL, d_tupT, d_idxL, d_idxT, d_lstL, d_lstT, d_revL, d_itL, d_itT, d_rng1, d_rng2, d_enum1, d_zip2, d_rev1L, d_rev1T, d_cutL, d_cutT, d_rep, d_mTup, d_mLst, d_setD, d_scN, d_scB, d_scI, d_scS, d_isN, d_isNN, d_isB, d_isNB, d_nN, d_nB, d_nI, d_nS, d_nL, d_nT, if_true, if_false, ite_true, ite_false, reduceIte, List.length_cons, List.length_nil, Nat.zero_add, Nat.reduceAdd, Nat.reduceSub, Nat.reduceEqDiff, List.map_cons, List.map_nil, List.cons_append, List.nil_append, List.replicate, Option.map_some, Option.bind_some, Option.some.injEq, Bool.not_true, Bool.not_false, ne_eq, Bool.false_eq_true, Int.reduceEq, Int.reduceLT, Int.reduceLE, Int.reduceNeg, Int.reduceAdd, Int.reduceSub, Int.reduceMul, Int.reduceToNat, Int.toNat_natCast, Nat.reduceLT, Nat.reduceLeDiff, not_false_eq_true, not_true_eq_false, decide_true, decide_false, List.length_map, List.map_append, fmod_pos, fdiv_pos, and_true, true_and, and_self, Bool.and_true, Bool.or_false, Bool.and_false, Bool.or_true, Bool.true_and, Bool.false_and, ty_li_none, ty_li_bool, ty_li_int, ty_li_str, ty_li_list, ty_li_tuple, ty_tu_none, ty_tu_bool, ty_tu_int, ty_tu_str, ty_tu_list, ty_tu_tuple, ty_bo_none, ty_bo_bool, ty_bo_int, ty_bo_str, ty_bo_list, ty_bo_tuple, ty_in_none, ty_in_bool, ty_in_int, ty_in_str, ty_in_list, ty_in_tuple, ty_st_none, ty_st_bool, ty_st_int, ty_st_str, ty_st_list, ty_st_tuple, eq_int, ne_int, eq_bl, ne_bl, eq_st, ne_st, eq_li, ne_li, at_0, at_1, at_2, at_3, at_4, at_5, in_li, notin_li, c_z, c_s, gx_v, gx_s, e_mIsX, e_sTry, tc_ok, tc_exc, cm_nil, cm_cons, ex_ok, dx_nil, dx_v, dx_o, dx_x, dx_n, at_exx, Int.cast_ofNat_Int, e_mLrg1, e_mLrg2, d_lrg]⟩
theorem lke_B : LkE PyData.bool := ⟨fun k a b hp => by
  obtain ⟨k, rfl⟩ : ∃ j, k = j + 1 := by cases k with
    | zero => exact hp.elim
    | succ j => exact ⟨j, rfl⟩
  rw [like_nl k _ _ rfl rfl]
  unfold m_law_like
  rw [fn_go (n := 2) rfl]
  unfold b_law_like
  change bodyOut (sThen _ _ [some (.val (.bool a)), some (.val (.bool b)), none]) = _
  simp (disch := omega) only [bind_ok, bind_bad, bind_exc, at_ok, at_exc, ofO_some, oS_some, nox_okk, g_v, g_s, go_v, go_s, ga_v, ga_o, ga_s, s_z, s_s, fz_o, fz_v, fz_s, e_mGet, e_mC, e_m2, e_m1, e_mT, e_mB, e_mAndB, e_mOrB, e_mNotB, e_mAnd, e_mOr, e_mIf, e_mChain, e_mNil, e_mCons, e_mSeq, e_mCall, e_mNo, e_mPart, e_mCut, e_mIs, e_mIs2, e_mL, e_mDsp, e_mRep, e_mBind, e_mIxO, e_mBor, e_mBorB, e_mItems, e_mWk, e_mRev, e_mYes, e_mLc, e_gN, e_gE, e_gC, e_gTt, e_gTl, e_sNx, e_sThen, e_sDrop, e_sRet, e_sSet, e_sIf, e_sFor, e_sAsg, e_sPar, e_sSetO, e_sSetL, e_ownAt, e_freeze, e_sApp, e_sSetIx, e_sAugIx, e_sAug, e_sPop, e_sPopTo, e_fnM, e_bo_rt, e_bo_nx, e_bo_exc, e_startE, e_wipe0, e_wipe1, d_add, d_addib, d_addl, d_addt, d_sub, d_mul, d_div, d_mod, d_pow, d_cmp, d_neg, d_not, d_iadd, d_iop, d_toB, d_toI, d_trB, d_trI, d_trN, d_trL, d_trT, d_lenL, d_lenT, d_intI, d_intB, d_abs, d_gcd, d_max2, d_min2, d_sumI, d_anyB, d_allB, d_maxL, d_minL, d_listL, d_listT, d_tupL, d_tupT, d_idxL, d_idxT, d_lstL, d_lstT, d_revL, d_itL, d_itT, d_rng1, d_rng2, d_enum1, d_zip2, d_rev1L, d_rev1T, d_cutL, d_cutT, d_rep, d_mTup, d_mLst, d_setD, d_scN, d_scB, d_scI, d_scS, d_isN, d_isNN, d_isB, d_isNB, d_nN, d_nB, d_nI, d_nS, d_nL, d_nT, if_true, if_false, ite_true, ite_false, reduceIte, List.length_cons, List.length_nil, Nat.zero_add, Nat.reduceAdd, Nat.reduceSub, Nat.reduceEqDiff, List.map_cons, List.map_nil, List.cons_append, List.nil_append, List.replicate, Option.map_some, Option.bind_some, Option.some.injEq, Bool.not_true, Bool.not_false, ne_eq, Bool.false_eq_true, Int.reduceEq, Int.reduceLT, Int.reduceLE, Int.reduceNeg, Int.reduceAdd, Int.reduceSub, Int.reduceMul, Int.reduceToNat, Int.toNat_natCast, Nat.reduceLT, Nat.reduceLeDiff, not_false_eq_true, not_true_eq_false, decide_true, decide_false, List.length_map, List.map_append, fmod_pos, fdiv_pos, and_true, true_and, and_self, Bool.and_true, Bool.or_false, Bool.and_false, Bool.or_true, Bool.true_and, Bool.false_and, ty_li_none, ty_li_bool, ty_li_int, ty_li_str, ty_li_list, ty_li_tuple, ty_tu_none, ty_tu_bool, ty_tu_int, ty_tu_str, ty_tu_list, ty_tu_tuple, ty_bo_none, ty_bo_bool, ty_bo_int, ty_bo_str, ty_bo_list, ty_bo_tuple, ty_in_none, ty_in_bool, ty_in_int, ty_in_str, ty_in_list, ty_in_tuple, ty_st_none, ty_st_bool, ty_st_int, ty_st_str, ty_st_list, ty_st_tuple, eq_int, ne_int, eq_bl, ne_bl, eq_st, ne_st, eq_li, ne_li, at_0, at_1, at_2, at_3, at_4, at_5, in_li, notin_li, c_z, c_s, gx_v, gx_s, e_mIsX, e_sTry, tc_ok, tc_exc, cm_nil, cm_cons, ex_ok, dx_nil, dx_v, dx_o, dx_x, dx_n, at_exx, Int.cast_ofNat_Int, e_mLrg1, e_mLrg2, d_lrg]⟩
theorem lke_S : LkE PyData.str := ⟨fun k a b hp => by
  obtain ⟨k, rfl⟩ : ∃ j, k = j + 1 := by cases k with
    | zero => exact hp.elim
    | succ j => exact ⟨j, rfl⟩
  rw [like_nl k _ _ rfl rfl]
  unfold m_law_like
  rw [fn_go (n := 2) rfl]
  unfold b_law_like
  change bodyOut (sThen _ _ [some (.val (.str a)), some (.val (.str b)), none]) = _
  simp (disch := omega) only [bind_ok, bind_bad, bind_exc, at_ok, at_exc, ofO_some, oS_some, nox_okk, g_v, g_s, go_v, go_s, ga_v, ga_o, ga_s, s_z, s_s, fz_o, fz_v, fz_s, e_mGet, e_mC, e_m2, e_m1, e_mT, e_mB, e_mAndB, e_mOrB, e_mNotB, e_mAnd, e_mOr, e_mIf, e_mChain, e_mNil, e_mCons, e_mSeq, e_mCall, e_mNo, e_mPart, e_mCut, e_mIs, e_mIs2, e_mL, e_mDsp, e_mRep, e_mBind, e_mIxO, e_mBor, e_mBorB, e_mItems, e_mWk, e_mRev, e_mYes, e_mLc, e_gN, e_gE, e_gC, e_gTt, e_gTl, e_sNx, e_sThen, e_sDrop, e_sRet, e_sSet, e_sIf, e_sFor, e_sAsg, e_sPar, e_sSetO, e_sSetL, e_ownAt, e_freeze, e_sApp, e_sSetIx, e_sAugIx, e_sAug, e_sPop, e_sPopTo, e_fnM, e_bo_rt, e_bo_nx, e_bo_exc, e_startE, e_wipe0, e_wipe1, d_add, d_addib, d_addl, d_addt, d_sub, d_mul, d_div, d_mod, d_pow, d_cmp, d_neg, d_not, d_iadd, d_iop, d_toB, d_toI, d_trB, d_trI, d_trN, d_trL, d_trT, d_lenL, d_lenT, d_intI, d_intB, d_abs, d_gcd, d_max2, d_min2, d_sumI, d_anyB, d_allB, d_maxL, d_minL, d_listL, d_listT, d_tupL, d_tupT, d_idxL, d_idxT, d_lstL, d_lstT, d_revL, d_itL, d_itT, d_rng1, d_rng2, d_enum1, d_zip2, d_rev1L, d_rev1T, d_cutL, d_cutT, d_rep, d_mTup, d_mLst, d_setD, d_scN, d_scB, d_scI, d_scS, d_isN, d_isNN, d_isB, d_isNB, d_nN, d_nB, d_nI, d_nS, d_nL, d_nT, if_true, if_false, ite_true, ite_false, reduceIte, List.length_cons, List.length_nil, Nat.zero_add, Nat.reduceAdd, Nat.reduceSub, Nat.reduceEqDiff, List.map_cons, List.map_nil, List.cons_append, List.nil_append, List.replicate, Option.map_some, Option.bind_some, Option.some.injEq, Bool.not_true, Bool.not_false, ne_eq, Bool.false_eq_true, Int.reduceEq, Int.reduceLT, Int.reduceLE, Int.reduceNeg, Int.reduceAdd, Int.reduceSub, Int.reduceMul, Int.reduceToNat, Int.toNat_natCast, Nat.reduceLT, Nat.reduceLeDiff, not_false_eq_true, not_true_eq_false, decide_true, decide_false, List.length_map, List.map_append, fmod_pos, fdiv_pos, and_true, true_and, and_self, Bool.and_true, Bool.or_false, Bool.and_false, Bool.or_true, Bool.true_and, Bool.false_and, ty_li_none, ty_li_bool, ty_li_int, ty_li_str, ty_li_list, ty_li_tuple, ty_tu_none, ty_tu_bool, ty_tu_int, ty_tu_str, ty_tu_list, ty_tu_tuple, ty_bo_none, ty_bo_bool, ty_bo_int, ty_bo_str, ty_bo_list, ty_bo_tuple, ty_in_none, ty_in_bool, ty_in_int, ty_in_str, ty_in_list, ty_in_tuple, ty_st_none, ty_st_bool, ty_st_int, ty_st_str, ty_st_list, ty_st_tuple, eq_int, ne_int, eq_bl, ne_bl, eq_st, ne_st, eq_li, ne_li, at_0, at_1, at_2, at_3, at_4, at_5, in_li, notin_li, c_z, c_s, gx_v, gx_s, e_mIsX, e_sTry, tc_ok, tc_exc, cm_nil, cm_cons, ex_ok, dx_nil, dx_v, dx_o, dx_x, dx_n, at_exx, Int.cast_ofNat_Int, e_mLrg1, e_mLrg2, d_lrg]⟩
theorem like_none (k : Nat) (d : PyData) : m_law_like (k + 1) [d, .none] = .ok (.bool (isNone d)) := by
  rw [like_nl k _ _ rfl rfl]
  unfold m_law_like
  rw [fn_go (n := 2) rfl]
  unfold b_law_like
  change bodyOut (sThen _ _ [some (.val d), some (.val .none), none]) = _
  simp (disch := omega) only [bind_ok, bind_bad, bind_exc, at_ok, at_exc, ofO_some, oS_some, nox_okk, g_v, g_s, go_v, go_s, ga_v, ga_o, ga_s, s_z, s_s, fz_o, fz_v, fz_s, e_mGet, e_mC, e_m2, e_m1, e_mT, e_mB, e_mAndB, e_mOrB, e_mNotB, e_mAnd, e_mOr, e_mIf, e_mChain, e_mNil, e_mCons, e_mSeq, e_mCall, e_mNo, e_mPart, e_mCut, e_mIs, e_mIs2, e_mL, e_mDsp, e_mRep, e_mBind, e_mIxO, e_mBor, e_mBorB, e_mItems, e_mWk, e_mRev, e_mYes, e_mLc, e_gN, e_gE, e_gC, e_gTt, e_gTl, e_sNx, e_sThen, e_sDrop, e_sRet, e_sSet, e_sIf, e_sFor, e_sAsg, e_sPar, e_sSetO, e_sSetL, e_ownAt, e_freeze, e_sApp, e_sSetIx, e_sAugIx, e_sAug, e_sPop, e_sPopTo, e_fnM, e_bo_rt, e_bo_nx, e_bo_exc, e_startE, e_wipe0, e_wipe1, d_add, d_addib, d_addl, d_addt, d_sub, d_mul, d_div, d_mod, d_pow, d_cmp, d_neg, d_not, d_iadd, d_iop, d_toB, d_toI, d_trB, d_trI, d_trN, d_trL, d_trT, d_lenL, d_lenT, d_intI, d_intB, d_abs, d_gcd, d_max2, d_min2, d_sumI, d_anyB, d_allB, d_maxL, d_minL, d_listL, d_listT, d_tupL, d_tupT, d_idxL, d_idxT, d_lstL, d_lstT, d_revL, d_itL, d_itT, d_rng1, d_rng2, d_enum1, d_zip2, d_rev1L, d_rev1T, d_cutL, d_cutT, d_rep, d_mTup, d_mLst, d_setD, d_scN, d_scB, d_scI, d_scS, d_isN, d_isNN, d_isB, d_isNB, d_nN, d_nB, d_nI, d_nS, d_nL, d_nT, if_true, if_false, ite_true, ite_false, reduceIte, List.length_cons, List.length_nil, Nat.zero_add, Nat.reduceAdd, Nat.reduceSub, Nat.reduceEqDiff, List.map_cons, List.map_nil, List.cons_append, List.nil_append, List.replicate, Option.map_some, Option.bind_some, Option.some.injEq, Bool.not_true, Bool.not_false, ne_eq, Bool.false_eq_true, Int.reduceEq, Int.reduceLT, Int.reduceLE, Int.reduceNeg, Int.reduceAdd, Int.reduceSub, Int.reduceMul, Int.reduceToNat, Int.toNat_natCast, Nat.reduceLT, Nat.reduceLeDiff, not_false_eq_true, not_true_eq_false, decide_true, decide_false, List.length_map, List.map_append, fmod_pos, fdiv_pos, and_true, true_and, and_self, Bool.and_true, Bool.or_false, Bool.and_false, Bool.or_true, Bool.true_and, Bool.false_and, ty_li_none, ty_li_bool, ty_li_int, ty_li_str, ty_li_list, ty_li_tuple, ty_tu_none, ty_tu_bool, ty_tu_int, ty_tu_str, ty_tu_list, ty_tu_tuple, ty_bo_none, ty_bo_bool, ty_bo_int, ty_bo_str, ty_bo_list, ty_bo_tuple, ty_in_none, ty_in_bool, ty_in_int, ty_in_str, ty_in_list, ty_in_tuple, ty_st_none, ty_st_bool, ty_st_int, ty_st_str, ty_st_list, ty_st_tuple, eq_int, ne_int, eq_bl, ne_bl, eq_st, ne_st, eq_li, ne_li, at_0, at_1, at_2, at_3, at_4, at_5, in_li, notin_li, c_z, c_s, gx_v, gx_s, e_mIsX, e_sTry, tc_ok, tc_exc, cm_nil, cm_cons, ex_ok, dx_nil, dx_v, dx_o, dx_x, dx_n, at_exx, Int.cast_ofNat_Int, e_mLrg1, e_mLrg2, d_lrg]
theorem lke_N : LkE eN := ⟨fun k a b hp => by
  obtain ⟨k, rfl⟩ : ∃ j, k = j + 1 := by cases k with
    | zero => exact hp.elim
    | succ j => exact ⟨j, rfl⟩
  rw [like_none]; rfl⟩
theorem all_rng {α : Type} [DecidableEq α] {xs ys : List α} {r : Int → Bool} (hl : xs.length = ys.length) (h : ∀ i : Nat, ∀ (hu : i < xs.length) (hv : i < ys.length), r i = decide (xs[i] = ys[i])) : (rngI 0 ys.length).all r = decide (xs = ys) := by
  rw [Bool.eq_iff_iff, List.all_eq_true, decide_eq_true_eq]
  constructor
  · intro a
    apply List.ext_getElem hl
    intro i h1 h2
    have := a i (rngI_mem.mpr (by omega))
    rw [h i h1 h2] at this
    exact of_decide_eq_true this
  · rintro rfl i hi
    obtain ⟨i0, i1⟩ := rngI_mem.mp hi
    have e : ((i.toNat : Nat) : Int) = i := by omega
    rw [← e, h i.toNat (by omega) (by omega)]
    simp
theorem lke_L {α : Type} [DecidableEq α] {e : α → PyData} (h : LkE e) : LkE (encL e) := ⟨fun k xs ys hp => by
  obtain ⟨k, rfl⟩ : ∃ j, k = j + 1 := by cases k with
    | zero => exact hp.elim
    | succ j => exact ⟨j, rfl⟩
  by_cases hl : xs.length = ys.length
  · have hz := hp.1
    rw [(like_seq (r := fun i => decide (xs[i.toNat]? = ys[i.toNat]?)) (by rw [List.length_map, List.length_map]; exact hl) hz (fun i hu hv => by
      rw [List.getElem_map, List.getElem_map]
      rw [List.length_map] at hu hv
      rw [h.lk k _ _ (hp.2 _ (List.mem_map.mpr ⟨_, List.getElem_mem hv, rfl⟩)), Int.toNat_natCast, List.getElem?_eq_getElem hu, List.getElem?_eq_getElem hv]
      simp)).1]
    rw [List.length_map, all_rng hl (fun i hu hv => by rw [Int.toNat_natCast, List.getElem?_eq_getElem hu, List.getElem?_eq_getElem hv]; simp)]
  · rw [like_len (by rw [List.length_map, List.length_map]; exact hl), decide_eq_false (fun q => hl (by rw [q]))]⟩
theorem lke_U {α : Type} [DecidableEq α] {e : α → PyData} (h : LkE e) (n : Nat) : ∀ (k : Nat) (a b : List α), a.length = n → b.length = n → plainD k (encU e b) → m_law_like k [encU e a, encU e b] = .ok (.bool (decide (a = b))) := fun k xs ys h1 h2 hp => by
  obtain ⟨k, rfl⟩ : ∃ j, k = j + 1 := by cases k with
    | zero => exact hp.elim
    | succ j => exact ⟨j, rfl⟩
  have hl : xs.length = ys.length := by omega
  have hz := hp.1
  rw [(like_seq (r := fun i => decide (xs[i.toNat]? = ys[i.toNat]?)) (by rw [List.length_map, List.length_map]; exact hl) hz (fun i hu hv => by
    rw [List.getElem_map, List.getElem_map]
    rw [List.length_map] at hu hv
    rw [h.lk k _ _ (hp.2 _ (List.mem_map.mpr ⟨_, List.getElem_mem hv, rfl⟩)), Int.toNat_natCast, List.getElem?_eq_getElem hu, List.getElem?_eq_getElem hv]
    simp)).2]
  rw [List.length_map, all_rng hl (fun i hu hv => by rw [Int.toNat_natCast, List.getElem?_eq_getElem hu, List.getElem?_eq_getElem hv]; simp)]
section
variable {α β γ δ : Type} [DecidableEq α] [DecidableEq β] [DecidableEq γ] [DecidableEq δ] {e : α → PyData} {f : β → PyData} {g : γ → PyData} {h : δ → PyData}
theorem lke_O (he : LkE e) (hn : ∀ a, isNone (e a) = false) : LkE (encO e) := ⟨fun k a b hp => by
  cases b with
  | none =>
    obtain ⟨k, rfl⟩ : ∃ j, k = j + 1 := by cases k with
      | zero => exact hp.elim
      | succ j => exact ⟨j, rfl⟩
    show m_law_like (k + 1) [encO e a, .none] = _
    rw [like_none]
    cases a with
    | none => rfl
    | some a => show R.ok (PyData.bool (isNone (e a))) = _; rw [hn a]; rfl
  | some b =>
    cases a with
    | some a =>
      have := he.lk k a b hp
      show m_law_like k [e a, e b] = _
      rw [this]; simp
    | none =>
      obtain ⟨k, rfl⟩ : ∃ j, k = j + 1 := by cases k with
        | zero => exact hp.elim
        | succ j => exact ⟨j, rfl⟩
      show m_law_like (k + 1) [.none, e b] = _
      rw [show decide (none = some b) = false from rfl]
      have hb := hn b
      have hp' : plainD (k + 1) (e b) := hp
      generalize e b = d at hb hp' ⊢
      unfold m_law_like
      rw [fn_go (n := 2) rfl]
      unfold b_law_like
      change bodyOut (sThen _ _ [some (.val .none), some (.val d), none]) = _
      cases d with
      | none => cases hb
      | dict _ => exact hp'.elim
      | bool x => simp (disch := omega) only [bind_ok, bind_bad, bind_exc, at_ok, at_exc, ofO_some, oS_some, nox_okk, g_v, g_s, go_v, go_s, ga_v, ga_o, ga_s, s_z, s_s, fz_o, fz_v, fz_s, e_mGet, e_mC, e_m2, e_m1, e_mT, e_mB, e_mAndB, e_mOrB, e_mNotB, e_mAnd, e_mOr, e_mIf, e_mChain, e_mNil, e_mCons, e_mSeq, e_mCall, e_mNo, e_mPart, e_mCut, e_mIs, e_mIs2, e_mL, e_mDsp, e_mRep, e_mBind, e_mIxO, e_mBor, e_mBorB, e_mItems, e_mWk, e_mRev, e_mYes, e_mLc, e_gN, e_gE, e_gC, e_gTt, e_gTl, e_sNx, e_sThen, e_sDrop, e_sRet, e_sSet, e_sIf, e_sFor, e_sAsg, e_sPar, e_sSetO, e_sSetL, e_ownAt, e_freeze, e_sApp, e_sSetIx, e_sAugIx, e_sAug, e_sPop, e_sPopTo, e_fnM, e_bo_rt, e_bo_nx, e_bo_exc, e_startE, e_wipe0, e_wipe1, d_add, d_addib, d_addl, d_addt, d_sub, d_mul, d_div, d_mod, d_pow, d_cmp, d_neg, d_not, d_iadd, d_iop, d_toB, d_toI, d_trB, d_trI, d_trN, d_trL, d_trT, d_lenL, d_lenT, d_intI, d_intB, d_abs, d_gcd, d_max2, d_min2, d_sumI, d_anyB, d_allB, d_maxL, d_minL, d_listL, d_listT, d_tupL, d_tupT, d_idxL, d_idxT, d_lstL, d_lstT, d_revL, d_itL, d_itT, d_rng1, d_rng2, d_enum1, d_zip2, d_rev1L, d_rev1T, d_cutL, d_cutT, d_rep, d_mTup, d_mLst, d_setD, d_scN, d_scB, d_scI, d_scS, d_isN, d_isNN, d_isB, d_isNB, d_nN, d_nB, d_nI, d_nS, d_nL, d_nT, if_true, if_false, ite_true, ite_false, reduceIte, List.length_cons, List.length_nil, Nat.zero_add, Nat.reduceAdd, Nat.reduceSub, Nat.reduceEqDiff, List.map_cons, List.map_nil, List.cons_append, List.nil_append, List.replicate, Option.map_some, Option.bind_some, Option.some.injEq, Bool.not_true, Bool.not_false, ne_eq, Bool.false_eq_true, Int.reduceEq, Int.reduceLT, Int.reduceLE, Int.reduceNeg, Int.reduceAdd, Int.reduceSub, Int.reduceMul, Int.reduceToNat, Int.toNat_natCast, Nat.reduceLT, Nat.reduceLeDiff, not_false_eq_true, not_true_eq_false, decide_true, decide_false, List.length_map, List.map_append, fmod_pos, fdiv_pos, and_true, true_and, and_self, Bool.and_true, Bool.or_false, Bool.and_false, Bool.or_true, Bool.true_and, Bool.false_and, ty_li_none, ty_li_bool, ty_li_int, ty_li_str, ty_li_list, ty_li_tuple, ty_tu_none, ty_tu_bool, ty_tu_int, ty_tu_str, ty_tu_list, ty_tu_tuple, ty_bo_none, ty_bo_bool, ty_bo_int, ty_bo_str, ty_bo_list, ty_bo_tuple, ty_in_none, ty_in_bool, ty_in_int, ty_in_str, ty_in_list, ty_in_tuple, ty_st_none, ty_st_bool, ty_st_int, ty_st_str, ty_st_list, ty_st_tuple, eq_int, ne_int, eq_bl, ne_bl, eq_st, ne_st, eq_li, ne_li, at_0, at_1, at_2, at_3, at_4, at_5, in_li, notin_li, c_z, c_s, gx_v, gx_s, e_mIsX, e_sTry, tc_ok, tc_exc, cm_nil, cm_cons, ex_ok, dx_nil, dx_v, dx_o, dx_x, dx_n, at_exx, Int.cast_ofNat_Int, e_mLrg1, e_mLrg2, d_lrg]
      | int x => simp (disch := omega) only [bind_ok, bind_bad, bind_exc, at_ok, at_exc, ofO_some, oS_some, nox_okk, g_v, g_s, go_v, go_s, ga_v, ga_o, ga_s, s_z, s_s, fz_o, fz_v, fz_s, e_mGet, e_mC, e_m2, e_m1, e_mT, e_mB, e_mAndB, e_mOrB, e_mNotB, e_mAnd, e_mOr, e_mIf, e_mChain, e_mNil, e_mCons, e_mSeq, e_mCall, e_mNo, e_mPart, e_mCut, e_mIs, e_mIs2, e_mL, e_mDsp, e_mRep, e_mBind, e_mIxO, e_mBor, e_mBorB, e_mItems, e_mWk, e_mRev, e_mYes, e_mLc, e_gN, e_gE, e_gC, e_gTt, e_gTl, e_sNx, e_sThen, e_sDrop, e_sRet, e_sSet, e_sIf, e_sFor, e_sAsg, e_sPar, e_sSetO, e_sSetL, e_ownAt, e_freeze, e_sApp, e_sSetIx, e_sAugIx, e_sAug, e_sPop, e_sPopTo, e_fnM, e_bo_rt, e_bo_nx, e_bo_exc, e_startE, e_wipe0, e_wipe1, d_add, d_addib, d_addl, d_addt, d_sub, d_mul, d_div, d_mod, d_pow, d_cmp, d_neg, d_not, d_iadd, d_iop, d_toB, d_toI, d_trB, d_trI, d_trN, d_trL, d_trT, d_lenL, d_lenT, d_intI, d_intB, d_abs, d_gcd, d_max2, d_min2, d_sumI, d_anyB, d_allB, d_maxL, d_minL, d_listL, d_listT, d_tupL, d_tupT, d_idxL, d_idxT, d_lstL, d_lstT, d_revL, d_itL, d_itT, d_rng1, d_rng2, d_enum1, d_zip2, d_rev1L, d_rev1T, d_cutL, d_cutT, d_rep, d_mTup, d_mLst, d_setD, d_scN, d_scB, d_scI, d_scS, d_isN, d_isNN, d_isB, d_isNB, d_nN, d_nB, d_nI, d_nS, d_nL, d_nT, if_true, if_false, ite_true, ite_false, reduceIte, List.length_cons, List.length_nil, Nat.zero_add, Nat.reduceAdd, Nat.reduceSub, Nat.reduceEqDiff, List.map_cons, List.map_nil, List.cons_append, List.nil_append, List.replicate, Option.map_some, Option.bind_some, Option.some.injEq, Bool.not_true, Bool.not_false, ne_eq, Bool.false_eq_true, Int.reduceEq, Int.reduceLT, Int.reduceLE, Int.reduceNeg, Int.reduceAdd, Int.reduceSub, Int.reduceMul, Int.reduceToNat, Int.toNat_natCast, Nat.reduceLT, Nat.reduceLeDiff, not_false_eq_true, not_true_eq_false, decide_true, decide_false, List.length_map, List.map_append, fmod_pos, fdiv_pos, and_true, true_and, and_self, Bool.and_true, Bool.or_false, Bool.and_false, Bool.or_true, Bool.true_and, Bool.false_and, ty_li_none, ty_li_bool, ty_li_int, ty_li_str, ty_li_list, ty_li_tuple, ty_tu_none, ty_tu_bool, ty_tu_int, ty_tu_str, ty_tu_list, ty_tu_tuple, ty_bo_none, ty_bo_bool, ty_bo_int, ty_bo_str, ty_bo_list, ty_bo_tuple, ty_in_none, ty_in_bool, ty_in_int, ty_in_str, ty_in_list, ty_in_tuple, ty_st_none, ty_st_bool, ty_st_int, ty_st_str, ty_st_list, ty_st_tuple, eq_int, ne_int, eq_bl, ne_bl, eq_st, ne_st, eq_li, ne_li, at_0, at_1, at_2, at_3, at_4, at_5, in_li, notin_li, c_z, c_s, gx_v, gx_s, e_mIsX, e_sTry, tc_ok, tc_exc, cm_nil, cm_cons, ex_ok, dx_nil, dx_v, dx_o, dx_x, dx_n, at_exx, Int.cast_ofNat_Int, e_mLrg1, e_mLrg2, d_lrg]
      | str x => simp (disch := omega) only [bind_ok, bind_bad, bind_exc, at_ok, at_exc, ofO_some, oS_some, nox_okk, g_v, g_s, go_v, go_s, ga_v, ga_o, ga_s, s_z, s_s, fz_o, fz_v, fz_s, e_mGet, e_mC, e_m2, e_m1, e_mT, e_mB, e_mAndB, e_mOrB, e_mNotB, e_mAnd, e_mOr, e_mIf, e_mChain, e_mNil, e_mCons, e_mSeq, e_mCall, e_mNo, e_mPart, e_mCut, e_mIs, e_mIs2, e_mL, e_mDsp, e_mRep, e_mBind, e_mIxO, e_mBor, e_mBorB, e_mItems, e_mWk, e_mRev, e_mYes, e_mLc, e_gN, e_gE, e_gC, e_gTt, e_gTl, e_sNx, e_sThen, e_sDrop, e_sRet, e_sSet, e_sIf, e_sFor, e_sAsg, e_sPar, e_sSetO, e_sSetL, e_ownAt, e_freeze, e_sApp, e_sSetIx, e_sAugIx, e_sAug, e_sPop, e_sPopTo, e_fnM, e_bo_rt, e_bo_nx, e_bo_exc, e_startE, e_wipe0, e_wipe1, d_add, d_addib, d_addl, d_addt, d_sub, d_mul, d_div, d_mod, d_pow, d_cmp, d_neg, d_not, d_iadd, d_iop, d_toB, d_toI, d_trB, d_trI, d_trN, d_trL, d_trT, d_lenL, d_lenT, d_intI, d_intB, d_abs, d_gcd, d_max2, d_min2, d_sumI, d_anyB, d_allB, d_maxL, d_minL, d_listL, d_listT, d_tupL, d_tupT, d_idxL, d_idxT, d_lstL, d_lstT, d_revL, d_itL, d_itT, d_rng1, d_rng2, d_enum1, d_zip2, d_rev1L, d_rev1T, d_cutL, d_cutT, d_rep, d_mTup, d_mLst, d_setD, d_scN, d_scB, d_scI, d_scS, d_isN, d_isNN, d_isB, d_isNB, d_nN, d_nB, d_nI, d_nS, d_nL, d_nT, if_true, if_false, ite_true, ite_false, reduceIte, List.length_cons, List.length_nil, Nat.zero_add, Nat.reduceAdd, Nat.reduceSub, Nat.reduceEqDiff, List.map_cons, List.map_nil, List.cons_append, List.nil_append, List.replicate, Option.map_some, Option.bind_some, Option.some.injEq, Bool.not_true, Bool.not_false, ne_eq, Bool.false_eq_true, Int.reduceEq, Int.reduceLT, Int.reduceLE, Int.reduceNeg, Int.reduceAdd, Int.reduceSub, Int.reduceMul, Int.reduceToNat, Int.toNat_natCast, Nat.reduceLT, Nat.reduceLeDiff, not_false_eq_true, not_true_eq_false, decide_true, decide_false, List.length_map, List.map_append, fmod_pos, fdiv_pos, and_true, true_and, and_self, Bool.and_true, Bool.or_false, Bool.and_false, Bool.or_true, Bool.true_and, Bool.false_and, ty_li_none, ty_li_bool, ty_li_int, ty_li_str, ty_li_list, ty_li_tuple, ty_tu_none, ty_tu_bool, ty_tu_int, ty_tu_str, ty_tu_list, ty_tu_tuple, ty_bo_none, ty_bo_bool, ty_bo_int, ty_bo_str, ty_bo_list, ty_bo_tuple, ty_in_none, ty_in_bool, ty_in_int, ty_in_str, ty_in_list, ty_in_tuple, ty_st_none, ty_st_bool, ty_st_int, ty_st_str, ty_st_list, ty_st_tuple, eq_int, ne_int, eq_bl, ne_bl, eq_st, ne_st, eq_li, ne_li, at_0, at_1, at_2, at_3, at_4, at_5, in_li, notin_li, c_z, c_s, gx_v, gx_s, e_mIsX, e_sTry, tc_ok, tc_exc, cm_nil, cm_cons, ex_ok, dx_nil, dx_v, dx_o, dx_x, dx_n, at_exx, Int.cast_ofNat_Int, e_mLrg1, e_mLrg2, d_lrg]
      | list x => simp (disch := omega) only [bind_ok, bind_bad, bind_exc, at_ok, at_exc, ofO_some, oS_some, nox_okk, g_v, g_s, go_v, go_s, ga_v, ga_o, ga_s, s_z, s_s, fz_o, fz_v, fz_s, e_mGet, e_mC, e_m2, e_m1, e_mT, e_mB, e_mAndB, e_mOrB, e_mNotB, e_mAnd, e_mOr, e_mIf, e_mChain, e_mNil, e_mCons, e_mSeq, e_mCall, e_mNo, e_mPart, e_mCut, e_mIs, e_mIs2, e_mL, e_mDsp, e_mRep, e_mBind, e_mIxO, e_mBor, e_mBorB, e_mItems, e_mWk, e_mRev, e_mYes, e_mLc, e_gN, e_gE, e_gC, e_gTt, e_gTl, e_sNx, e_sThen, e_sDrop, e_sRet, e_sSet, e_sIf, e_sFor, e_sAsg, e_sPar, e_sSetO, e_sSetL, e_ownAt, e_freeze, e_sApp, e_sSetIx, e_sAugIx, e_sAug, e_sPop, e_sPopTo, e_fnM, e_bo_rt, e_bo_nx, e_bo_exc, e_startE, e_wipe0, e_wipe1, d_add, d_addib, d_addl, d_addt, d_sub, d_mul, d_div, d_mod, d_pow, d_cmp, d_neg, d_not, d_iadd, d_iop, d_toB, d_toI, d_trB, d_trI, d_trN, d_trL, d_trT, d_lenL, d_lenT, d_intI, d_intB, d_abs, d_gcd, d_max2, d_min2, d_sumI, d_anyB, d_allB, d_maxL, d_minL, d_listL, d_listT, d_tupL, d_tupT, d_idxL, d_idxT, d_lstL, d_lstT, d_revL, d_itL, d_itT, d_rng1, d_rng2, d_enum1, d_zip2, d_rev1L, d_rev1T, d_cutL, d_cutT, d_rep, d_mTup, d_mLst, d_setD, d_scN, d_scB, d_scI, d_scS, d_isN, d_isNN, d_isB, d_isNB, d_nN, d_nB, d_nI, d_nS, d_nL, d_nT, if_true, if_false, ite_true, ite_false, reduceIte, List.length_cons, List.length_nil, Nat.zero_add, Nat.reduceAdd, Nat.reduceSub, Nat.reduceEqDiff, List.map_cons, List.map_nil, List.cons_append, List.nil_append, List.replicate, Option.map_some, Option.bind_some, Option.some.injEq, Bool.not_true, Bool.not_false, ne_eq, Bool.false_eq_true, Int.reduceEq, Int.reduceLT, Int.reduceLE, Int.reduceNeg, Int.reduceAdd, Int.reduceSub, Int.reduceMul, Int.reduceToNat, Int.toNat_natCast, Nat.reduceLT, Nat.reduceLeDiff, not_false_eq_true, not_true_eq_false, decide_true, decide_false, List.length_map, List.map_append, fmod_pos, fdiv_pos, and_true, true_and, and_self, Bool.and_true, Bool.or_false, Bool.and_false, Bool.or_true, Bool.true_and, Bool.false_and, ty_li_none, ty_li_bool, ty_li_int, ty_li_str, ty_li_list, ty_li_tuple, ty_tu_none, ty_tu_bool, ty_tu_int, ty_tu_str, ty_tu_list, ty_tu_tuple, ty_bo_none, ty_bo_bool, ty_bo_int, ty_bo_str, ty_bo_list, ty_bo_tuple, ty_in_none, ty_in_bool, ty_in_int, ty_in_str, ty_in_list, ty_in_tuple, ty_st_none, ty_st_bool, ty_st_int, ty_st_str, ty_st_list, ty_st_tuple, eq_int, ne_int, eq_bl, ne_bl, eq_st, ne_st, eq_li, ne_li, at_0, at_1, at_2, at_3, at_4, at_5, in_li, notin_li, c_z, c_s, gx_v, gx_s, e_mIsX, e_sTry, tc_ok, tc_exc, cm_nil, cm_cons, ex_ok, dx_nil, dx_v, dx_o, dx_x, dx_n, at_exx, Int.cast_ofNat_Int, e_mLrg1, e_mLrg2, d_lrg]
      | tuple x => simp (disch := omega) only [bind_ok, bind_bad, bind_exc, at_ok, at_exc, ofO_some, oS_some, nox_okk, g_v, g_s, go_v, go_s, ga_v, ga_o, ga_s, s_z, s_s, fz_o, fz_v, fz_s, e_mGet, e_mC, e_m2, e_m1, e_mT, e_mB, e_mAndB, e_mOrB, e_mNotB, e_mAnd, e_mOr, e_mIf, e_mChain, e_mNil, e_mCons, e_mSeq, e_mCall, e_mNo, e_mPart, e_mCut, e_mIs, e_mIs2, e_mL, e_mDsp, e_mRep, e_mBind, e_mIxO, e_mBor, e_mBorB, e_mItems, e_mWk, e_mRev, e_mYes, e_mLc, e_gN, e_gE, e_gC, e_gTt, e_gTl, e_sNx, e_sThen, e_sDrop, e_sRet, e_sSet, e_sIf, e_sFor, e_sAsg, e_sPar, e_sSetO, e_sSetL, e_ownAt, e_freeze, e_sApp, e_sSetIx, e_sAugIx, e_sAug, e_sPop, e_sPopTo, e_fnM, e_bo_rt, e_bo_nx, e_bo_exc, e_startE, e_wipe0, e_wipe1, d_add, d_addib, d_addl, d_addt, d_sub, d_mul, d_div, d_mod, d_pow, d_cmp, d_neg, d_not, d_iadd, d_iop, d_toB, d_toI, d_trB, d_trI, d_trN, d_trL, d_trT, d_lenL, d_lenT, d_intI, d_intB, d_abs, d_gcd, d_max2, d_min2, d_sumI, d_anyB, d_allB, d_maxL, d_minL, d_listL, d_listT, d_tupL, d_tupT, d_idxL, d_idxT, d_lstL, d_lstT, d_revL, d_itL, d_itT, d_rng1, d_rng2, d_enum1, d_zip2, d_rev1L, d_rev1T, d_cutL, d_cutT, d_rep, d_mTup, d_mLst, d_setD, d_scN, d_scB, d_scI, d_scS, d_isN, d_isNN, d_isB, d_isNB, d_nN, d_nB, d_nI, d_nS, d_nL, d_nT, if_true, if_false, ite_true, ite_false, reduceIte, List.length_cons, List.length_nil, Nat.zero_add, Nat.reduceAdd, Nat.reduceSub, Nat.reduceEqDiff, List.map_cons, List.map_nil, List.cons_append, List.nil_append, List.replicate, Option.map_some, Option.bind_some, Option.some.injEq, Bool.not_true, Bool.not_false, ne_eq, Bool.false_eq_true, Int.reduceEq, Int.reduceLT, Int.reduceLE, Int.reduceNeg, Int.reduceAdd, Int.reduceSub, Int.reduceMul, Int.reduceToNat, Int.toNat_natCast, Nat.reduceLT, Nat.reduceLeDiff, not_false_eq_true, not_true_eq_false, decide_true, decide_false, List.length_map, List.map_append, fmod_pos, fdiv_pos, and_true, true_and, and_self, Bool.and_true, Bool.or_false, Bool.and_false, Bool.or_true, Bool.true_and, Bool.false_and, ty_li_none, ty_li_bool, ty_li_int, ty_li_str, ty_li_list, ty_li_tuple, ty_tu_none, ty_tu_bool, ty_tu_int, ty_tu_str, ty_tu_list, ty_tu_tuple, ty_bo_none, ty_bo_bool, ty_bo_int, ty_bo_str, ty_bo_list, ty_bo_tuple, ty_in_none, ty_in_bool, ty_in_int, ty_in_str, ty_in_list, ty_in_tuple, ty_st_none, ty_st_bool, ty_st_int, ty_st_str, ty_st_list, ty_st_tuple, eq_int, ne_int, eq_bl, ne_bl, eq_st, ne_st, eq_li, ne_li, at_0, at_1, at_2, at_3, at_4, at_5, in_li, notin_li, c_z, c_s, gx_v, gx_s, e_mIsX, e_sTry, tc_ok, tc_exc, cm_nil, cm_cons, ex_ok, dx_nil, dx_v, dx_o, dx_x, dx_n, at_exx, Int.cast_ofNat_Int, e_mLrg1, e_mLrg2, d_lrg]⟩
theorem lke_2 (he : LkE e) (hf : LkE f) : LkE (enc2 e f) := ⟨fun k a b hp => by
  obtain ⟨k, rfl⟩ : ∃ j, k = j + 1 := by cases k with
    | zero => exact hp.elim
    | succ j => exact ⟨j, rfl⟩
  have p0 := hp.2 (e b.1) (by simp)
  have p1 := hp.2 (f b.2) (by simp)
  show m_law_like (k + 1) [.tuple [e a.1, f a.2], .tuple [e b.1, f b.2]] = _
  rw [(like_seq (us := [e a.1, f a.2]) (vs := [e b.1, f b.2]) (r := fun i => if i = 0 then decide (a.1 = b.1) else decide (a.2 = b.2)) rfl hp.1 (fun i hu hv => by
    match i, hu, hv with
    | 0, _, _ => exact he.lk k _ _ p0
    | 1, _, _ => exact hf.lk k _ _ p1)).2]
  have : rngI 0 (([e b.1, f b.2] : List PyData).length : Nat) = [0, 1] := rfl
  rw [this]
  obtain ⟨a1, a2⟩ := a
  obtain ⟨b1, b2⟩ := b
  by_cases h1 : a1 = b1 <;> by_cases h2 : a2 = b2 <;> simp [h1, h2]⟩
theorem lke_3 (he : LkE e) (hf : LkE f) (hg : LkE g) : LkE (enc3 e f g) := ⟨fun k a b hp => by
  obtain ⟨k, rfl⟩ : ∃ j, k = j + 1 := by cases k with
    | zero => exact hp.elim
    | succ j => exact ⟨j, rfl⟩
  have p0 := hp.2 (e b.1) (by simp)
  have p1 := hp.2 (f b.2.1) (by simp)
  have p2 := hp.2 (g b.2.2) (by simp)
  show m_law_like (k + 1) [.tuple [e a.1, f a.2.1, g a.2.2], .tuple [e b.1, f b.2.1, g b.2.2]] = _
  rw [(like_seq (us := [e a.1, f a.2.1, g a.2.2]) (vs := [e b.1, f b.2.1, g b.2.2]) (r := fun i => if i = 0 then decide (a.1 = b.1) else if i = 1 then decide (a.2.1 = b.2.1) else decide (a.2.2 = b.2.2)) rfl hp.1 (fun i hu hv => by
    match i, hu, hv with
    | 0, _, _ => exact he.lk k _ _ p0
    | 1, _, _ => exact hf.lk k _ _ p1
    | 2, _, _ => exact hg.lk k _ _ p2)).2]
  have : rngI 0 (([e b.1, f b.2.1, g b.2.2] : List PyData).length : Nat) = [0, 1, 2] := rfl
  rw [this]
  obtain ⟨a1, a2, a3⟩ := a
  obtain ⟨b1, b2, b3⟩ := b
  by_cases h1 : a1 = b1 <;> by_cases h2 : a2 = b2 <;> by_cases h3 : a3 = b3 <;> simp [h1, h2, h3]⟩
theorem lke_4 (he : LkE e) (hf : LkE f) (hg : LkE g) (hh : LkE h) : LkE (enc4 e f g h) := ⟨fun k a b hp => by
  obtain ⟨k, rfl⟩ : ∃ j, k = j + 1 := by cases k with
    | zero => exact hp.elim
    | succ j => exact ⟨j, rfl⟩
  have p0 := hp.2 (e b.1) (by simp)
  have p1 := hp.2 (f b.2.1) (by simp)
  have p2 := hp.2 (g b.2.2.1) (by simp)
  have p3 := hp.2 (h b.2.2.2) (by simp)
  show m_law_like (k + 1) [.tuple [e a.1, f a.2.1, g a.2.2.1, h a.2.2.2], .tuple [e b.1, f b.2.1, g b.2.2.1, h b.2.2.2]] = _
  rw [(like_seq (us := [e a.1, f a.2.1, g a.2.2.1, h a.2.2.2]) (vs := [e b.1, f b.2.1, g b.2.2.1, h b.2.2.2]) (r := fun i => if i = 0 then decide (a.1 = b.1) else if i = 1 then decide (a.2.1 = b.2.1) else if i = 2 then decide (a.2.2.1 = b.2.2.1) else decide (a.2.2.2 = b.2.2.2)) rfl hp.1 (fun i hu hv => by
    match i, hu, hv with
    | 0, _, _ => exact he.lk k _ _ p0
    | 1, _, _ => exact hf.lk k _ _ p1
    | 2, _, _ => exact hg.lk k _ _ p2
    | 3, _, _ => exact hh.lk k _ _ p3)).2]
  have : rngI 0 (([e b.1, f b.2.1, g b.2.2.1, h b.2.2.2] : List PyData).length : Nat) = [0, 1, 2, 3] := rfl
  rw [this]
  obtain ⟨a1, a2, a3, a4⟩ := a
  obtain ⟨b1, b2, b3, b4⟩ := b
  by_cases h1 : a1 = b1 <;> by_cases h2 : a2 = b2 <;> by_cases h3 : a3 = b3 <;> by_cases h4 : a4 = b4 <;> simp [h1, h2, h3, h4]⟩
end
noncomputable def F_law_draws (script : (List Int)) (at_ : Int) (count : Int) : (List Int) :=
  (bnd (if (decide (at_ < (script.length : Int))) = true then (bnd (script.getD (at_).toNat 0) fun (cell2 : Int) =>
  cell2) else 0) fun (cell : Int) =>
  (bnd (decide ((10 ^ 18) ≤ cell)) fun (great : Bool) =>
  (bnd ((rngI 0 count).foldl (fun (s : Int × (List Int)) (k : Int) =>
  (if great = true then (bnd (s.1 / 5040) fun (cell3 : Int) =>
  (cell3, (s.2 ++ [(s.1 % 5040)])))
  else (bnd ((((s.1 * 69621) + ((k + (64 * at_)) * 48271)) + 13) % 2147483647) fun (mixed : Int) =>
  (bnd ((((mixed * mixed) + (mixed * 40014)) + (k * 7919)) % 2147483563) fun (mixed2 : Int) =>
  (s.1, (s.2 ++ [((mixed2 / 64) % 5040)])))))) (cell, [])) fun (s2 : Int × (List Int)) =>
  s2.2)))
def S_law_draws (script : (List Int)) (at_ : Int) (count : Int) : Prop :=
  ((decide (at_ < (script.length : Int))) = true → ixOk script.length at_) ∧ (bnd (if (decide (at_ < (script.length : Int))) = true then (bnd (script.getD (at_).toNat 0) fun (cell2 : Int) =>
  cell2) else 0) fun (cell : Int) => (bnd (decide ((10 ^ 18) ≤ cell)) fun (great : Bool) => r62 count ∧ LpS (fun (s : Int × (List Int)) (k : Int) => (great = true → s.2.length < sizeLine) ∧ (great = false → (bnd ((((s.1 * 69621) + ((k + (64 * at_)) * 48271)) + 13) % 2147483647) fun (mixed : Int) => mulOk mixed mixed ∧ (bnd ((((mixed * mixed) + (mixed * 40014)) + (k * 7919)) % 2147483563) fun (mixed2 : Int) => s.2.length < sizeLine)))) (fun (s : Int × (List Int)) (k : Int) =>
  (if great = true then (bnd (s.1 / 5040) fun (cell3 : Int) =>
  (cell3, (s.2 ++ [(s.1 % 5040)])))
  else (bnd ((((s.1 * 69621) + ((k + (64 * at_)) * 48271)) + 13) % 2147483647) fun (mixed : Int) =>
  (bnd ((((mixed * mixed) + (mixed * 40014)) + (k * 7919)) % 2147483563) fun (mixed2 : Int) =>
  (s.1, (s.2 ++ [((mixed2 / 64) % 5040)])))))) (rngI 0 count) (cell, [])))
theorem T_law_draws (script : (List Int)) (at_ : Int) (count : Int) (h : S_law_draws script at_ count) : m_law_draws [(encL PyData.int) script, PyData.int at_, PyData.int count] = .ok ((encL PyData.int) (F_law_draws script at_ count)) :=
  t_fn (b := b_law_draws) (eτ := (encL PyData.int)) rfl
  ((ts_p [vv (encL PyData.int) script, vv PyData.int at_, vv PyData.int count, none, none, none, none, none] rfl (ts_set t_c (ts_p [vv (encL PyData.int) script, vv PyData.int at_, vv PyData.int count, vv PyData.int 0, none, none, none, none] rfl (ts_joinG (QQ := QF (encL PyData.int)) (E := fun (cell : Int) => [vv (encL PyData.int) script, vv PyData.int at_, vv PyData.int count, vv PyData.int cell, none, none, none, none]) (t_B (t_2 (t_get rfl) (t_call (t_cons (t_get rfl) t_nil) f_lenL) f_lt)) (fun hc1 => (ts_p [vv (encL PyData.int) script, vv PyData.int at_, vv PyData.int count, vv PyData.int 0, none, none, none, none] rfl (ts_end (ts_setG (QQ := QJ _) (eγ := PyData.int) (t_call (t_cons (t_2 (t_get rfl) (t_get rfl) (f_idxL (d := 0) (h.1 hc1))) t_nil) f_intI) (show bnd _ (fun _ => True) from trivial) (fun cell2 hb2 =>
  (ts_p [vv (encL PyData.int) script, vv PyData.int at_, vv PyData.int count, vv PyData.int cell2, none, none, none, none] rfl (ts_finJ (.is (.is (.is (.is (.is (.is (.is (.is .nil))))))))))))))) (fun hc1 => (ts_p [vv (encL PyData.int) script, vv PyData.int at_, vv PyData.int count, vv PyData.int 0, none, none, none, none] rfl (ts_finJ (.is (.is (.is (.is (.is (.is (.is (.is .nil))))))))))) h.2 (fun cell hb3 =>
  (ts_p [vv (encL PyData.int) script, vv PyData.int at_, vv PyData.int count, vv PyData.int cell, none, none, none, none] rfl (ts_setG (QQ := QF (encL PyData.int)) (eγ := PyData.bool) (t_2 (t_get rfl) (t_2 t_c t_c (f_pow (k := 18) (by decide) rfl)) f_ge) hb3 (fun great hb4 =>
  (ts_p [vv (encL PyData.int) script, vv PyData.int at_, vv PyData.int count, vv PyData.int cell, vv PyData.bool great, none, none, none] rfl (ts_setO (t_dsp t_nil (ln_r rfl)) (ts_p [vv (encL PyData.int) script, vv PyData.int at_, vv PyData.int count, vv PyData.int cell, vv PyData.bool great, vo PyData.int [], none, none] rfl (ts_forG (QQ := QF (encL PyData.int)) (e := PyData.int) (xs := (rngI 0 count)) (eτ := (encL PyData.int)) (F := (fun (s : Int × (List Int)) (k : Int) =>
  (if great = true then (bnd (s.1 / 5040) fun (cell3 : Int) =>
  (cell3, (s.2 ++ [(s.1 % 5040)])))
  else (bnd ((((s.1 * 69621) + ((k + (64 * at_)) * 48271)) + 13) % 2147483647) fun (mixed : Int) =>
  (bnd ((((mixed * mixed) + (mixed * 40014)) + (k * 7919)) % 2147483563) fun (mixed2 : Int) =>
  (s.1, (s.2 ++ [((mixed2 / 64) % 5040)]))))))) (S := (fun (s : Int × (List Int)) (k : Int) => (great = true → s.2.length < sizeLine) ∧ (great = false → (bnd ((((s.1 * 69621) + ((k + (64 * at_)) * 48271)) + 13) % 2147483647) fun (mixed : Int) => mulOk mixed mixed ∧ (bnd ((((mixed * mixed) + (mixed * 40014)) + (k * 7919)) % 2147483563) fun (mixed2 : Int) => s.2.length < sizeLine))))) (E := fun (s : Int × (List Int)) => [vv (encL PyData.int) script, vv PyData.int at_, vv PyData.int count, vv PyData.int s.1, vv PyData.bool great, vo PyData.int s.2, none, none]) (.is (.is (.is (.is (.is (.is (.any (.any .nil)))))))) (t_wk (t_cons (t_get rfl) t_nil) (f_rng1 hb4.1)) hb4.2 (fun s k => tg_n) (fun s k hx6 hb5 =>
  (ts_p [vv (encL PyData.int) script, vv PyData.int at_, vv PyData.int count, vv PyData.int s.1, vv PyData.bool great, vo PyData.int s.2, vv PyData.int k, none] rfl (ts_end (ts_if (QQ := fun z => QL _ (encL PyData.int) (Stp.nx z)) (t_T (t_get rfl) f_truB) (fun hc7 => (ts_as (ts_app (e := PyData.int) rfl (t_2 (t_call (t_cons (t_get rfl) t_nil) f_intI) t_c (f_mod (by decide))) (hb5.1 hc7) (ts_p [vv (encL PyData.int) script, vv PyData.int at_, vv PyData.int count, vv PyData.int s.1, vv PyData.bool great, vo PyData.int (s.2 ++ [(s.1 % 5040)]), vv PyData.int k, none] rfl (ts_setG (QQ := fun z => QL _ (encL PyData.int) (Stp.nx z)) (eγ := PyData.int) (t_2 (t_get rfl) t_c (f_div (dvOk_s (by decide) (by decide)))) (show bnd _ (fun _ => True) from trivial) (fun cell3 hb8 =>
  (ts_p [vv (encL PyData.int) script, vv PyData.int at_, vv PyData.int count, vv PyData.int cell3, vv PyData.bool great, vo PyData.int (s.2 ++ [(s.1 % 5040)]), vv PyData.int k, none] rfl (ts_finL (.is (.is (.is (.is (.is (.is (.any (.any .nil))))))))))))))))
  (fun hc7 => (ts_as (ts_setG (QQ := fun z => QL _ (encL PyData.int) (Stp.nx z)) (eγ := PyData.int) (t_2 (t_call (t_cons (t_2 (t_2 (t_2 (t_get rfl) t_c (f_mul (mulOk_r (by decide) (by decide)))) (t_2 (t_2 (t_get rfl) (t_2 t_c (t_get rfl) (f_mul (mulOk_l (by decide) (by decide)))) f_add) t_c (f_mul (mulOk_r (by decide) (by decide)))) f_add) t_c f_add) t_nil) f_intI) t_c (f_mod (by decide))) (hb5.2 hc7) (fun mixed hb9 =>
  (ts_p [vv (encL PyData.int) script, vv PyData.int at_, vv PyData.int count, vv PyData.int s.1, vv PyData.bool great, vo PyData.int s.2, vv PyData.int k, vv PyData.int mixed] rfl (ts_as (ts_setG (QQ := fun z => QL _ (encL PyData.int) (Stp.nx z)) (eγ := PyData.int) (t_2 (t_call (t_cons (t_2 (t_2 (t_2 (t_get rfl) (t_get rfl) (f_mul hb9.1)) (t_2 (t_get rfl) t_c (f_mul (mulOk_r (by decide) (by decide)))) f_add) (t_2 (t_get rfl) t_c (f_mul (mulOk_r (by decide) (by decide)))) f_add) t_nil) f_intI) t_c (f_mod (by decide))) hb9.2 (fun mixed2 hb10 =>
  (ts_p [vv (encL PyData.int) script, vv PyData.int at_, vv PyData.int count, vv PyData.int s.1, vv PyData.bool great, vo PyData.int s.2, vv PyData.int k, vv PyData.int mixed2] rfl (ts_app (e := PyData.int) rfl (t_2 (t_call (t_cons (t_2 (t_get rfl) t_c (f_div (dvOk_s (by decide) (by decide)))) t_nil) f_intI) t_c (f_mod (by decide))) hb10 (ts_p [vv (encL PyData.int) script, vv PyData.int at_, vv PyData.int count, vv PyData.int s.1, vv PyData.bool great, vo PyData.int (s.2 ++ [((mixed2 / 64) % 5040)]), vv PyData.int k, vv PyData.int mixed2] rfl (ts_finL (.is (.is (.is (.is (.is (.is (.any (.any .nil)))))))))))))))))))))))) (show bnd _ (fun _ => True) from trivial) (fun s2 hb11 =>
  (ts_p [vv (encL PyData.int) script, vv PyData.int at_, vv PyData.int count, vv PyData.int s2.1, vv PyData.bool great, vo PyData.int s2.2, none, none] rfl (ts_end (ts_fz (ts_p [vv (encL PyData.int) script, vv PyData.int at_, vv PyData.int count, vv PyData.int s2.1, vv PyData.bool great, vv (encL PyData.int) s2.2, none, none] rfl (ts_retF (t_get rfl))))))))))))))))))))
noncomputable def F_law_track (script : (List Int)) (at_ : Int) (wide : Int) : ((List (Int × Int)) × Int × (List Int)) :=
  (bnd (F_law_draws script at_ 60) fun (picks : (List Int)) =>
  (bnd ((picks.getD 0 0) % (([1, 3, 5, wide] : List Int).getD (((picks.getD 1 0) % 4)).toNat 0)) fun (spare : Int) =>
  (bnd ((picks.getD 2 0) % 3) fun (place : Int) =>
  (bnd ((rngI 0 (1 + ((picks.getD 3 0) % 3))).foldl (fun (s : (List (Int × Int)) × Int) (k : Int) =>
  (bnd (((s.2 + ((s.1 ++ [(s.2, (1 + ((picks.getD ((4 + k)).toNat 0) % (([1, 3, 6, 9] : List Int).getD (((picks.getD 7 0) % 4)).toNat 0))))]).getD (k).toNat (0, 0)).2) + spare) + (((picks.getD ((8 + k)).toNat 0) % 3) * ((picks.getD ((8 + k)).toNat 0) % 4))) fun (place2 : Int) =>
  ((s.1 ++ [(s.2, (1 + ((picks.getD ((4 + k)).toNat 0) % (([1, 3, 6, 9] : List Int).getD (((picks.getD 7 0) % 4)).toNat 0))))]), place2))) ([], place)) fun (s2 : (List (Int × Int)) × Int) =>
  (bnd ((rngI 0 (s2.2 + ((picks.getD 11 0) % 4))).foldl (fun (left_ : (List Int)) (k2 : Int) =>
  (left_ ++ [(((picks.getD ((12 + (k2 % 48))).toNat 0) % (([2, 4, 12, 1000] : List Int).getD ((((picks.getD 7 0) / 4) % 4)).toNat 0)) * (if (decide (0 < ((picks.getD (((7 * k2) % 60)).toNat 0) % 9))) = true then 1 else 0))])) []) fun (left_2 : (List Int)) =>
  (s2.1, spare, left_2))))))
def S_law_track (script : (List Int)) (at_ : Int) (wide : Int) : Prop :=
  S_law_draws script at_ 60 ∧ (bnd (F_law_draws script at_ 60) fun (picks : (List Int)) => 0 < picks.length ∧ 1 < picks.length ∧ 0 < (([1, 3, 5, wide] : List Int).getD (((picks.getD 1 0) % 4)).toNat 0) ∧ (bnd ((picks.getD 0 0) % (([1, 3, 5, wide] : List Int).getD (((picks.getD 1 0) % 4)).toNat 0)) fun (spare : Int) => 2 < picks.length ∧ (bnd ((picks.getD 2 0) % 3) fun (place : Int) => 3 < picks.length ∧ r62 (1 + ((picks.getD 3 0) % 3)) ∧ LpS (fun (s : (List (Int × Int)) × Int) (k : Int) => ixOk picks.length (4 + k) ∧ 7 < picks.length ∧ 0 < (([1, 3, 6, 9] : List Int).getD (((picks.getD 7 0) % 4)).toNat 0) ∧ s.1.length < sizeLine ∧ ixOk (s.1 ++ [(s.2, (1 + ((picks.getD ((4 + k)).toNat 0) % (([1, 3, 6, 9] : List Int).getD (((picks.getD 7 0) % 4)).toNat 0))))]).length k ∧ ixOk picks.length (8 + k) ∧ mulOk ((picks.getD ((8 + k)).toNat 0) % 3) ((picks.getD ((8 + k)).toNat 0) % 4)) (fun (s : (List (Int × Int)) × Int) (k : Int) =>
  (bnd (((s.2 + ((s.1 ++ [(s.2, (1 + ((picks.getD ((4 + k)).toNat 0) % (([1, 3, 6, 9] : List Int).getD (((picks.getD 7 0) % 4)).toNat 0))))]).getD (k).toNat (0, 0)).2) + spare) + (((picks.getD ((8 + k)).toNat 0) % 3) * ((picks.getD ((8 + k)).toNat 0) % 4))) fun (place2 : Int) =>
  ((s.1 ++ [(s.2, (1 + ((picks.getD ((4 + k)).toNat 0) % (([1, 3, 6, 9] : List Int).getD (((picks.getD 7 0) % 4)).toNat 0))))]), place2))) (rngI 0 (1 + ((picks.getD 3 0) % 3))) ([], place) ∧ (bnd ((rngI 0 (1 + ((picks.getD 3 0) % 3))).foldl (fun (s : (List (Int × Int)) × Int) (k : Int) =>
  (bnd (((s.2 + ((s.1 ++ [(s.2, (1 + ((picks.getD ((4 + k)).toNat 0) % (([1, 3, 6, 9] : List Int).getD (((picks.getD 7 0) % 4)).toNat 0))))]).getD (k).toNat (0, 0)).2) + spare) + (((picks.getD ((8 + k)).toNat 0) % 3) * ((picks.getD ((8 + k)).toNat 0) % 4))) fun (place2 : Int) =>
  ((s.1 ++ [(s.2, (1 + ((picks.getD ((4 + k)).toNat 0) % (([1, 3, 6, 9] : List Int).getD (((picks.getD 7 0) % 4)).toNat 0))))]), place2))) ([], place)) fun (s2 : (List (Int × Int)) × Int) => 11 < picks.length ∧ r62 (s2.2 + ((picks.getD 11 0) % 4)) ∧ LpS (fun (left_ : (List Int)) (k2 : Int) => ixOk picks.length (12 + (k2 % 48)) ∧ 7 < picks.length ∧ 0 < (([2, 4, 12, 1000] : List Int).getD ((((picks.getD 7 0) / 4) % 4)).toNat 0) ∧ ixOk picks.length ((7 * k2) % 60) ∧ mulOk ((picks.getD ((12 + (k2 % 48))).toNat 0) % (([2, 4, 12, 1000] : List Int).getD ((((picks.getD 7 0) / 4) % 4)).toNat 0)) (if (decide (0 < ((picks.getD (((7 * k2) % 60)).toNat 0) % 9))) = true then 1 else 0) ∧ left_.length < sizeLine) (fun (left_ : (List Int)) (k2 : Int) =>
  (left_ ++ [(((picks.getD ((12 + (k2 % 48))).toNat 0) % (([2, 4, 12, 1000] : List Int).getD ((((picks.getD 7 0) / 4) % 4)).toNat 0)) * (if (decide (0 < ((picks.getD (((7 * k2) % 60)).toNat 0) % 9))) = true then 1 else 0))])) (rngI 0 (s2.2 + ((picks.getD 11 0) % 4))) []))))
theorem T_law_track (script : (List Int)) (at_ : Int) (wide : Int) (h : S_law_track script at_ wide) : m_law_track [(encL PyData.int) script, PyData.int at_, PyData.int wide] = .ok ((enc3 (encL (enc2 PyData.int PyData.int)) PyData.int (encL PyData.int)) (F_law_track script at_ wide)) :=
  t_fn (b := b_law_track) (eτ := (enc3 (encL (enc2 PyData.int PyData.int)) PyData.int (encL PyData.int))) rfl
  ((ts_p [vv (encL PyData.int) script, vv PyData.int at_, vv PyData.int wide, none, none, none, none, none, none] rfl (ts_setG (QQ := QF (enc3 (encL (enc2 PyData.int PyData.int)) PyData.int (encL PyData.int))) (eγ := (encL PyData.int)) (t_seq (t_cons (t_get rfl) (t_cons (t_get rfl) (t_cons t_c t_nil))) (T_law_draws _ _ _ h.1)) h.2 (fun picks hb1 =>
  (ts_p [vv (encL PyData.int) script, vv PyData.int at_, vv PyData.int wide, vv (encL PyData.int) picks, none, none, none, none, none] rfl (ts_setG (QQ := QF (enc3 (encL (enc2 PyData.int PyData.int)) PyData.int (encL PyData.int))) (eγ := PyData.int) (t_2 (t_2 (t_get rfl) t_c (f_idxK (d := 0) 0 rfl hb1.1)) (t_2 (t_as (encL PyData.int) ([1, 3, 5, wide] : List Int) (t_seq (t_cons t_c (t_cons t_c (t_cons t_c (t_cons (t_get rfl) t_nil)))) (mLst_ok rfl))) (t_2 (t_2 (t_get rfl) t_c (f_idxK (d := 0) 1 rfl hb1.2.1)) t_c (f_mod (by decide))) (f_idxL (d := 0) (ix_mod (n := 4) (by decide) (by decide)))) (f_mod hb1.2.2.1)) hb1.2.2.2 (fun spare hb2 =>
  (ts_p [vv (encL PyData.int) script, vv PyData.int at_, vv PyData.int wide, vv (encL PyData.int) picks, vv PyData.int spare, none, none, none, none] rfl (ts_setO (t_dsp t_nil (ln_r rfl)) (ts_p [vv (encL PyData.int) script, vv PyData.int at_, vv PyData.int wide, vv (encL PyData.int) picks, vv PyData.int spare, vo PyData.int [], none, none, none] rfl (ts_setG (QQ := QF (enc3 (encL (enc2 PyData.int PyData.int)) PyData.int (encL PyData.int))) (eγ := PyData.int) (t_2 (t_2 (t_get rfl) t_c (f_idxK (d := 0) 2 rfl hb2.1)) t_c (f_mod (by decide))) hb2.2 (fun place hb3 =>
  (ts_p [vv (encL PyData.int) script, vv PyData.int at_, vv PyData.int wide, vv (encL PyData.int) picks, vv PyData.int spare, vo PyData.int [], vv PyData.int place, none, none] rfl (ts_forG (QQ := QF (enc3 (encL (enc2 PyData.int PyData.int)) PyData.int (encL PyData.int))) (e := PyData.int) (xs := (rngI 0 (1 + ((picks.getD 3 0) % 3)))) (eτ := (enc3 (encL (enc2 PyData.int PyData.int)) PyData.int (encL PyData.int))) (F := (fun (s : (List (Int × Int)) × Int) (k : Int) =>
  (bnd (((s.2 + ((s.1 ++ [(s.2, (1 + ((picks.getD ((4 + k)).toNat 0) % (([1, 3, 6, 9] : List Int).getD (((picks.getD 7 0) % 4)).toNat 0))))]).getD (k).toNat (0, 0)).2) + spare) + (((picks.getD ((8 + k)).toNat 0) % 3) * ((picks.getD ((8 + k)).toNat 0) % 4))) fun (place2 : Int) =>
  ((s.1 ++ [(s.2, (1 + ((picks.getD ((4 + k)).toNat 0) % (([1, 3, 6, 9] : List Int).getD (((picks.getD 7 0) % 4)).toNat 0))))]), place2)))) (S := (fun (s : (List (Int × Int)) × Int) (k : Int) => ixOk picks.length (4 + k) ∧ 7 < picks.length ∧ 0 < (([1, 3, 6, 9] : List Int).getD (((picks.getD 7 0) % 4)).toNat 0) ∧ s.1.length < sizeLine ∧ ixOk (s.1 ++ [(s.2, (1 + ((picks.getD ((4 + k)).toNat 0) % (([1, 3, 6, 9] : List Int).getD (((picks.getD 7 0) % 4)).toNat 0))))]).length k ∧ ixOk picks.length (8 + k) ∧ mulOk ((picks.getD ((8 + k)).toNat 0) % 3) ((picks.getD ((8 + k)).toNat 0) % 4))) (E := fun (s : (List (Int × Int)) × Int) => [vv (encL PyData.int) script, vv PyData.int at_, vv PyData.int wide, vv (encL PyData.int) picks, vv PyData.int spare, vo (enc2 PyData.int PyData.int) s.1, vv PyData.int s.2, none, none]) (.is (.is (.is (.is (.is (.is (.is (.any (.is .nil))))))))) (t_wk (t_cons (t_2 t_c (t_2 (t_2 (t_get rfl) t_c (f_idxK (d := 0) 3 rfl hb3.1)) t_c (f_mod (by decide))) f_add) t_nil) (f_rng1 hb3.2.1)) hb3.2.2.1 (fun s k => tg_n) (fun s k hx5 hb4 =>
  (ts_p [vv (encL PyData.int) script, vv PyData.int at_, vv PyData.int wide, vv (encL PyData.int) picks, vv PyData.int spare, vo (enc2 PyData.int PyData.int) s.1, vv PyData.int s.2, vv PyData.int k, none] rfl (ts_app (e := (enc2 PyData.int PyData.int)) rfl (t_as (enc2 PyData.int PyData.int) (s.2, (1 + ((picks.getD ((4 + k)).toNat 0) % (([1, 3, 6, 9] : List Int).getD (((picks.getD 7 0) % 4)).toNat 0)))) (t_seq (t_cons (t_get rfl) (t_cons (t_2 t_c (t_2 (t_2 (t_get rfl) (t_2 t_c (t_get rfl) f_add) (f_idxL (d := 0) hb4.1)) (t_2 (t_as (encL PyData.int) ([1, 3, 6, 9] : List Int) (t_seq (t_cons t_c (t_cons t_c (t_cons t_c (t_cons t_c t_nil)))) (mLst_ok rfl))) (t_2 (t_2 (t_get rfl) t_c (f_idxK (d := 0) 7 rfl hb4.2.1)) t_c (f_mod (by decide))) (f_idxL (d := 0) (ix_mod (n := 4) (by decide) (by decide)))) (f_mod hb4.2.2.1)) f_add) t_nil)) (mTup_ok rfl))) hb4.2.2.2.1 (ts_p [vv (encL PyData.int) script, vv PyData.int at_, vv PyData.int wide, vv (encL PyData.int) picks, vv PyData.int spare, vo (enc2 PyData.int PyData.int) (s.1 ++ [(s.2, (1 + ((picks.getD ((4 + k)).toNat 0) % (([1, 3, 6, 9] : List Int).getD (((picks.getD 7 0) % 4)).toNat 0))))]), vv PyData.int s.2, vv PyData.int k, none] rfl (ts_end (ts_setG (QQ := fun z => QL _ (enc3 (encL (enc2 PyData.int PyData.int)) PyData.int (encL PyData.int)) (Stp.nx z)) (eγ := PyData.int) (t_2 (t_2 (t_2 (t_get rfl) (t_2 (t_ixO rfl (t_get rfl) (f_idxL (d := (0, 0)) hb4.2.2.2.2.1)) t_c (f_i1 _ _ _)) f_add) (t_get rfl) f_add) (t_2 (t_2 (t_2 (t_get rfl) (t_2 t_c (t_get rfl) f_add) (f_idxL (d := 0) hb4.2.2.2.2.2.1)) t_c (f_mod (by decide))) (t_2 (t_2 (t_get rfl) (t_2 t_c (t_get rfl) f_add) (f_idxL (d := 0) hb4.2.2.2.2.2.1)) t_c (f_mod (by decide))) (f_mul hb4.2.2.2.2.2.2)) f_add) (show bnd _ (fun _ => True) from trivial) (fun place2 hb6 =>
  (ts_p [vv (encL PyData.int) script, vv PyData.int at_, vv PyData.int wide, vv (encL PyData.int) picks, vv PyData.int spare, vo (enc2 PyData.int PyData.int) (s.1 ++ [(s.2, (1 + ((picks.getD ((4 + k)).toNat 0) % (([1, 3, 6, 9] : List Int).getD (((picks.getD 7 0) % 4)).toNat 0))))]), vv PyData.int place2, vv PyData.int k, none] rfl (ts_finL (.is (.is (.is (.is (.is (.is (.is (.any (.is .nil)))))))))))))))))) hb3.2.2.2 (fun s2 hb7 =>
  (ts_p [vv (encL PyData.int) script, vv PyData.int at_, vv PyData.int wide, vv (encL PyData.int) picks, vv PyData.int spare, vo (enc2 PyData.int PyData.int) s2.1, vv PyData.int s2.2, none, none] rfl (ts_setO (t_dsp t_nil (ln_r rfl)) (ts_p [vv (encL PyData.int) script, vv PyData.int at_, vv PyData.int wide, vv (encL PyData.int) picks, vv PyData.int spare, vo (enc2 PyData.int PyData.int) s2.1, vv PyData.int s2.2, none, vo PyData.int []] rfl (ts_forG (QQ := QF (enc3 (encL (enc2 PyData.int PyData.int)) PyData.int (encL PyData.int))) (e := PyData.int) (xs := (rngI 0 (s2.2 + ((picks.getD 11 0) % 4)))) (eτ := (enc3 (encL (enc2 PyData.int PyData.int)) PyData.int (encL PyData.int))) (F := (fun (left_ : (List Int)) (k2 : Int) =>
  (left_ ++ [(((picks.getD ((12 + (k2 % 48))).toNat 0) % (([2, 4, 12, 1000] : List Int).getD ((((picks.getD 7 0) / 4) % 4)).toNat 0)) * (if (decide (0 < ((picks.getD (((7 * k2) % 60)).toNat 0) % 9))) = true then 1 else 0))]))) (S := (fun (left_ : (List Int)) (k2 : Int) => ixOk picks.length (12 + (k2 % 48)) ∧ 7 < picks.length ∧ 0 < (([2, 4, 12, 1000] : List Int).getD ((((picks.getD 7 0) / 4) % 4)).toNat 0) ∧ ixOk picks.length ((7 * k2) % 60) ∧ mulOk ((picks.getD ((12 + (k2 % 48))).toNat 0) % (([2, 4, 12, 1000] : List Int).getD ((((picks.getD 7 0) / 4) % 4)).toNat 0)) (if (decide (0 < ((picks.getD (((7 * k2) % 60)).toNat 0) % 9))) = true then 1 else 0) ∧ left_.length < sizeLine)) (E := fun (left_ : (List Int)) => [vv (encL PyData.int) script, vv PyData.int at_, vv PyData.int wide, vv (encL PyData.int) picks, vv PyData.int spare, vo (enc2 PyData.int PyData.int) s2.1, vv PyData.int s2.2, none, vo PyData.int left_]) (.is (.is (.is (.is (.is (.is (.is (.any (.is .nil))))))))) (t_wk (t_cons (t_2 (t_get rfl) (t_2 (t_2 (t_get rfl) t_c (f_idxK (d := 0) 11 rfl hb7.1)) t_c (f_mod (by decide))) f_add) t_nil) (f_rng1 hb7.2.1)) hb7.2.2 (fun left_ k2 => tg_n) (fun left_ k2 hx9 hb8 =>
  (ts_p [vv (encL PyData.int) script, vv PyData.int at_, vv PyData.int wide, vv (encL PyData.int) picks, vv PyData.int spare, vo (enc2 PyData.int PyData.int) s2.1, vv PyData.int s2.2, vv PyData.int k2, vo PyData.int left_] rfl (ts_end (ts_app (e := PyData.int) rfl (t_2 (t_2 (t_2 (t_get rfl) (t_2 t_c (t_2 (t_get rfl) t_c (f_mod (by decide))) f_add) (f_idxL (d := 0) hb8.1)) (t_2 (t_as (encL PyData.int) ([2, 4, 12, 1000] : List Int) (t_seq (t_cons t_c (t_cons t_c (t_cons t_c (t_cons t_c t_nil)))) (mLst_ok rfl))) (t_2 (t_2 (t_2 (t_get rfl) t_c (f_idxK (d := 0) 7 rfl hb8.2.1)) t_c (f_div (dvOk_s (by decide) (by decide)))) t_c (f_mod (by decide))) (f_idxL (d := 0) (ix_mod (n := 4) (by decide) (by decide)))) (f_mod hb8.2.2.1)) (t_call (t_cons (t_2 (t_2 (t_2 (t_get rfl) (t_2 (t_2 t_c (t_get rfl) (f_mul (mulOk_l (by decide) (by decide)))) t_c (f_mod (by decide))) (f_idxL (d := 0) hb8.2.2.2.1)) t_c (f_mod (by decide))) t_c f_gt) t_nil) f_intB) (f_mul hb8.2.2.2.2.1)) hb8.2.2.2.2.2 (ts_p [vv (encL PyData.int) script, vv PyData.int at_, vv PyData.int wide, vv (encL PyData.int) picks, vv PyData.int spare, vo (enc2 PyData.int PyData.int) s2.1, vv PyData.int s2.2, vv PyData.int k2, vo PyData.int (left_ ++ [(((picks.getD ((12 + (k2 % 48))).toNat 0) % (([2, 4, 12, 1000] : List Int).getD ((((picks.getD 7 0) / 4) % 4)).toNat 0)) * (if (decide (0 < ((picks.getD (((7 * k2) % 60)).toNat 0) % 9))) = true then 1 else 0))])] rfl (ts_finL (.is (.is (.is (.is (.is (.is (.is (.any (.is .nil))))))))))))))) (show bnd _ (fun _ => True) from trivial) (fun left_2 hb10 =>
  (ts_p [vv (encL PyData.int) script, vv PyData.int at_, vv PyData.int wide, vv (encL PyData.int) picks, vv PyData.int spare, vo (enc2 PyData.int PyData.int) s2.1, vv PyData.int s2.2, none, vo PyData.int left_2] rfl (ts_end (ts_fz (ts_p [vv (encL PyData.int) script, vv PyData.int at_, vv PyData.int wide, vv (encL PyData.int) picks, vv PyData.int spare, vv (encL (enc2 PyData.int PyData.int)) s2.1, vv PyData.int s2.2, none, vo PyData.int left_2] rfl (ts_fz (ts_p [vv (encL PyData.int) script, vv PyData.int at_, vv PyData.int wide, vv (encL PyData.int) picks, vv PyData.int spare, vv (encL (enc2 PyData.int PyData.int)) s2.1, vv PyData.int s2.2, none, vv (encL PyData.int) left_2] rfl (ts_retF (t_as (enc3 (encL (enc2 PyData.int PyData.int)) PyData.int (encL PyData.int)) (s2.1, spare, left_2) (t_seq (t_cons (t_get rfl) (t_cons (t_get rfl) (t_cons (t_get rfl) t_nil))) (mTup_ok rfl))))))))))))))))))))))))))))))
noncomputable def F_window (track : ((List (Int × Int)) × Int × (List Int))) (piece : Int) : (Option (Int × Int)) :=
  (Lp.el (loopR (fun (s : Unit) (place_width : (Int × Int)) => ((bnd (piece - place_width.1) fun (rank : Int) =>
  (if ((decide (0 ≤ rank)) && (decide (rank < (place_width.2 + track.2.1)))) = true then Stp.rt (some ((max 0 ((rank - place_width.2) + 1)), (min track.2.1 rank)))
  else Stp.nx ())) : Stp (Unit) (Option (Int × Int)))) track.1 ()) (fun v => v) fun (s2 : Unit) =>
  none)
theorem T_window (track : ((List (Int × Int)) × Int × (List Int))) (piece : Int) : m_window [(enc3 (encL (enc2 PyData.int PyData.int)) PyData.int (encL PyData.int)) track, PyData.int piece] = .ok ((encO (enc2 PyData.int PyData.int)) (F_window track piece)) :=
  t_fn (b := b_window) (eτ := (encO (enc2 PyData.int PyData.int))) rfl
  ((ts_p [vv (enc3 (encL (enc2 PyData.int PyData.int)) PyData.int (encL PyData.int)) track, vv PyData.int piece, none, none, none, none, none, none] rfl (ts_asg (t_get rfl) (tg_t (tg_c tg_n (tg_c tg_n (tg_c tg_n tg_e))) rfl) (ts_p [vv (enc3 (encL (enc2 PyData.int PyData.int)) PyData.int (encL PyData.int)) track, vv PyData.int piece, vv (encL (enc2 PyData.int PyData.int)) track.1, vv PyData.int track.2.1, vv (encL PyData.int) track.2.2, none, none, none] rfl (ts_forRU (QQ := QF (encO (enc2 PyData.int PyData.int))) (e := (enc2 PyData.int PyData.int)) (xs := track.1) (eτ := (encO (enc2 PyData.int PyData.int))) (F := (fun (s : Unit) (place_width : (Int × Int)) => ((bnd (piece - place_width.1) fun (rank : Int) =>
  (if ((decide (0 ≤ rank)) && (decide (rank < (place_width.2 + track.2.1)))) = true then Stp.rt (some ((max 0 ((rank - place_width.2) + 1)), (min track.2.1 rank)))
  else Stp.nx ())) : Stp (Unit) (Option (Int × Int))))) (S := (fun (s : Unit) (place_width : (Int × Int)) => True)) (E := fun (s : Unit) => [vv (enc3 (encL (enc2 PyData.int PyData.int)) PyData.int (encL PyData.int)) track, vv PyData.int piece, vv (encL (enc2 PyData.int PyData.int)) track.1, vv PyData.int track.2.1, vv (encL PyData.int) track.2.2, none, none, none]) (K := fun v => v) (fun _ _ => kF) (.is (.is (.is (.is (.is (.any (.any (.any .nil)))))))) (t_items (t_get rfl) f_items) (LpR.tt : LpR _ (fun (s : Unit) (place_width : (Int × Int)) => ((bnd (piece - place_width.1) fun (rank : Int) =>
  (if ((decide (0 ≤ rank)) && (decide (rank < (place_width.2 + track.2.1)))) = true then Stp.rt (some ((max 0 ((rank - place_width.2) + 1)), (min track.2.1 rank)))
  else Stp.nx ())) : Stp (Unit) (Option (Int × Int)))) _ _) (fun s place_width => (tg_t (tg_c tg_n (tg_c tg_n tg_e)) rfl)) (fun s place_width hx2 hb1 =>
  (ts_p [vv (enc3 (encL (enc2 PyData.int PyData.int)) PyData.int (encL PyData.int)) track, vv PyData.int piece, vv (encL (enc2 PyData.int PyData.int)) track.1, vv PyData.int track.2.1, vv (encL PyData.int) track.2.2, vv PyData.int place_width.1, vv PyData.int place_width.2, none] rfl (ts_setG (QQ := QL _ (encO (enc2 PyData.int PyData.int))) (eγ := PyData.int) (t_2 (t_get rfl) (t_get rfl) f_sub) (show bnd _ (fun _ => True) from trivial) (fun rank hb3 =>
  (ts_p [vv (enc3 (encL (enc2 PyData.int PyData.int)) PyData.int (encL PyData.int)) track, vv PyData.int piece, vv (encL (enc2 PyData.int PyData.int)) track.1, vv PyData.int track.2.1, vv (encL PyData.int) track.2.2, vv PyData.int place_width.1, vv PyData.int place_width.2, vv PyData.int rank] rfl (ts_end (ts_if (QQ := QL _ (encO (enc2 PyData.int PyData.int))) (t_B (t_chain t_c (t_get rfl) f_le (fun hc4 => (t_2 (t_get rfl) (t_get rfl) f_add)) (fun hc4 => f_lt))) (fun hc5 => (ts_retL (t_as (encO (enc2 PyData.int PyData.int)) (some ((max 0 ((rank - place_width.2) + 1)), (min track.2.1 rank))) (t_as (enc2 PyData.int PyData.int) ((max 0 ((rank - place_width.2) + 1)), (min track.2.1 rank)) (t_seq (t_cons (t_call (t_cons t_c (t_cons (t_2 (t_2 (t_get rfl) (t_get rfl) f_sub) t_c f_add) t_nil)) f_max2) (t_cons (t_call (t_cons (t_get rfl) (t_cons (t_get rfl) t_nil)) f_min2) t_nil)) (mTup_ok rfl))))))
  (fun hc5 => (ts_nx (ts_p [vv (enc3 (encL (enc2 PyData.int PyData.int)) PyData.int (encL PyData.int)) track, vv PyData.int piece, vv (encL (enc2 PyData.int PyData.int)) track.1, vv PyData.int track.2.1, vv (encL PyData.int) track.2.2, vv PyData.int place_width.1, vv PyData.int place_width.2, vv PyData.int rank] rfl (ts_finL (.is (.is (.is (.is (.is (.any (.any (.any .nil))))))))))))))))))) (fun s2 hb6 =>
  (ts_p [vv (enc3 (encL (enc2 PyData.int PyData.int)) PyData.int (encL PyData.int)) track, vv PyData.int piece, vv (encL (enc2 PyData.int PyData.int)) track.1, vv PyData.int track.2.1, vv (encL PyData.int) track.2.2, none, none, none] rfl (ts_end (ts_retF (t_as (encO (enc2 PyData.int PyData.int)) none t_c))))))))))
noncomputable def F_windows (track : ((List (Int × Int)) × Int × (List Int))) : (List (Int × Int × Int)) :=
  (bnd ((rngI 0 (track.2.2.length : Int)).foldl (fun (found : (List (Int × Int × Int))) (piece : Int) =>
  (bnd (F_window track piece) fun (some_ : (Option (Int × Int))) =>
  (if some_.isSome = true then (found ++ [(piece, (some_.getD (0, 0)).1, (some_.getD (0, 0)).2)])
  else found))) []) fun (found2 : (List (Int × Int × Int))) =>
  found2)
def S_windows (track : ((List (Int × Int)) × Int × (List Int))) : Prop :=
  r62 (track.2.2.length : Int) ∧ LpS (fun (found : (List (Int × Int × Int))) (piece : Int) => (bnd (F_window track piece) fun (some_ : (Option (Int × Int))) => (some_.isSome = true → some_.isSome = true ∧ found.length < sizeLine))) (fun (found : (List (Int × Int × Int))) (piece : Int) =>
  (bnd (F_window track piece) fun (some_ : (Option (Int × Int))) =>
  (if some_.isSome = true then (found ++ [(piece, (some_.getD (0, 0)).1, (some_.getD (0, 0)).2)])
  else found))) (rngI 0 (track.2.2.length : Int)) []
theorem T_windows (track : ((List (Int × Int)) × Int × (List Int))) (h : S_windows track) : m_windows [(enc3 (encL (enc2 PyData.int PyData.int)) PyData.int (encL PyData.int)) track] = .ok ((encL (enc3 PyData.int PyData.int PyData.int)) (F_windows track)) :=
  t_fn (b := b_windows) (eτ := (encL (enc3 PyData.int PyData.int PyData.int))) rfl
  ((ts_p [vv (enc3 (encL (enc2 PyData.int PyData.int)) PyData.int (encL PyData.int)) track, none, none, none] rfl (ts_setO (t_dsp t_nil (ln_r rfl)) (ts_p [vv (enc3 (encL (enc2 PyData.int PyData.int)) PyData.int (encL PyData.int)) track, vo PyData.int [], none, none] rfl (ts_forG (QQ := QF (encL (enc3 PyData.int PyData.int PyData.int))) (e := PyData.int) (xs := (rngI 0 (track.2.2.length : Int))) (eτ := (encL (enc3 PyData.int PyData.int PyData.int))) (F := (fun (found : (List (Int × Int × Int))) (piece : Int) =>
  (bnd (F_window track piece) fun (some_ : (Option (Int × Int))) =>
  (if some_.isSome = true then (found ++ [(piece, (some_.getD (0, 0)).1, (some_.getD (0, 0)).2)])
  else found)))) (S := (fun (found : (List (Int × Int × Int))) (piece : Int) => (bnd (F_window track piece) fun (some_ : (Option (Int × Int))) => (some_.isSome = true → some_.isSome = true ∧ found.length < sizeLine)))) (E := fun (found : (List (Int × Int × Int))) => [vv (enc3 (encL (enc2 PyData.int PyData.int)) PyData.int (encL PyData.int)) track, vo (enc3 PyData.int PyData.int PyData.int) found, none, none]) (.is (.is (.any (.any .nil)))) (t_wk (t_cons (t_call (t_cons (t_2 (t_get rfl) t_c (f_i2 _ _ _ _)) t_nil) f_lenL) t_nil) (f_rng1 h.1)) h.2 (fun found piece => tg_n) (fun found piece hx2 hb1 =>
  (ts_p [vv (enc3 (encL (enc2 PyData.int PyData.int)) PyData.int (encL PyData.int)) track, vo (enc3 PyData.int PyData.int PyData.int) found, vv PyData.int piece, none] rfl (ts_setG (QQ := fun z => QL _ (encL (enc3 PyData.int PyData.int PyData.int)) (Stp.nx z)) (eγ := (encO (enc2 PyData.int PyData.int))) (t_seq (t_cons (t_get rfl) (t_cons (t_get rfl) t_nil)) (T_window _ _)) hb1 (fun some_ hb3 =>
  (ts_p [vv (enc3 (encL (enc2 PyData.int PyData.int)) PyData.int (encL PyData.int)) track, vo (enc3 PyData.int PyData.int PyData.int) found, vv PyData.int piece, vv (encO (enc2 PyData.int PyData.int)) some_] rfl (ts_end (ts_if (QQ := fun z => QL _ (encL (enc3 PyData.int PyData.int PyData.int)) (Stp.nx z)) (t_B (t_2 (t_get rfl) t_c (f_isNN (fun _ => rfl)))) (fun hc4 => (ts_app (e := (enc3 PyData.int PyData.int PyData.int)) rfl (t_as (enc3 PyData.int PyData.int PyData.int) (piece, (some_.getD (0, 0)).1, (some_.getD (0, 0)).2) (t_seq (t_cons (t_get rfl) (t_cons (t_2 (t_unO (d := (0, 0)) (t_get rfl) (hb3 hc4).1) t_c (f_i0 _ _)) (t_cons (t_2 (t_unO (d := (0, 0)) (t_get rfl) (hb3 hc4).1) t_c (f_i1 _ _ _)) t_nil))) (mTup_ok rfl))) (hb3 hc4).2 (ts_p [vv (enc3 (encL (enc2 PyData.int PyData.int)) PyData.int (encL PyData.int)) track, vo (enc3 PyData.int PyData.int PyData.int) (found ++ [(piece, (some_.getD (0, 0)).1, (some_.getD (0, 0)).2)]), vv PyData.int piece, vv (encO (enc2 PyData.int PyData.int)) some_] rfl (ts_finL (.is (.is (.any (.any .nil))))))))
  (fun hc4 => (ts_nx (ts_p [vv (enc3 (encL (enc2 PyData.int PyData.int)) PyData.int (encL PyData.int)) track, vo (enc3 PyData.int PyData.int PyData.int) found, vv PyData.int piece, vv (encO (enc2 PyData.int PyData.int)) some_] rfl (ts_finL (.is (.is (.any (.any .nil))))))))))))))) (show bnd _ (fun _ => True) from trivial) (fun found2 hb5 =>
  (ts_p [vv (enc3 (encL (enc2 PyData.int PyData.int)) PyData.int (encL PyData.int)) track, vo (enc3 PyData.int PyData.int PyData.int) found2, none, none] rfl (ts_end (ts_fz (ts_p [vv (enc3 (encL (enc2 PyData.int PyData.int)) PyData.int (encL PyData.int)) track, vv (encL (enc3 PyData.int PyData.int PyData.int)) found2, none, none] rfl (ts_retF (t_get rfl))))))))))))
noncomputable def F_least_needs (track : ((List (Int × Int)) × Int × (List Int))) : (List Int) :=
  (bnd (F_windows track) fun (all_windows : (List (Int × Int × Int))) =>
  (bnd ([0] : List Int) fun (need : (List Int)) =>
  (bnd ((rngI 0 (track.2.1 + 1)).foldl (fun (need2 : (List Int)) (k : Int) =>
  (need2 ++ [(minL ((all_windows.filter fun piece_first_last => ((decide (piece_first_last.2.1 ≤ k)) && (decide (k ≤ piece_first_last.2.2)))).map fun piece_first_last => ((need2.getD (piece_first_last.2.1).toNat 0) + (track.2.2.getD (piece_first_last.1).toNat 0))))])) need) fun (need22 : (List Int)) =>
  need22)))
def S_least_needs (track : ((List (Int × Int)) × Int × (List Int))) : Prop :=
  S_windows track ∧ (bnd (F_windows track) fun (all_windows : (List (Int × Int × Int))) => (bnd ([0] : List Int) fun (need : (List Int)) => r62 (track.2.1 + 1) ∧ LpS (fun (need2 : (List Int)) (k : Int) => all_windows.length ≤ sizeLine ∧ (∀ piece_first_last ∈ all_windows, ((decide (piece_first_last.2.1 ≤ k)) && (decide (k ≤ piece_first_last.2.2))) = true → ixOk need2.length piece_first_last.2.1 ∧ ixOk track.2.2.length piece_first_last.1) ∧ (((all_windows.filter fun piece_first_last => ((decide (piece_first_last.2.1 ≤ k)) && (decide (k ≤ piece_first_last.2.2)))).map fun piece_first_last => ((need2.getD (piece_first_last.2.1).toNat 0) + (track.2.2.getD (piece_first_last.1).toNat 0))) ≠ []) ∧ need2.length < sizeLine) (fun (need2 : (List Int)) (k : Int) =>
  (need2 ++ [(minL ((all_windows.filter fun piece_first_last => ((decide (piece_first_last.2.1 ≤ k)) && (decide (k ≤ piece_first_last.2.2)))).map fun piece_first_last => ((need2.getD (piece_first_last.2.1).toNat 0) + (track.2.2.getD (piece_first_last.1).toNat 0))))])) (rngI 0 (track.2.1 + 1)) need))
theorem T_least_needs (track : ((List (Int × Int)) × Int × (List Int))) (h : S_least_needs track) : m_least_needs [(enc3 (encL (enc2 PyData.int PyData.int)) PyData.int (encL PyData.int)) track] = .ok ((encL PyData.int) (F_least_needs track)) :=
  t_fn (b := b_least_needs) (eτ := (encL PyData.int)) rfl
  ((ts_p [vv (enc3 (encL (enc2 PyData.int PyData.int)) PyData.int (encL PyData.int)) track, none, none, none, none, none, none, none, none, none] rfl (ts_asg (t_get rfl) (tg_t (tg_c tg_n (tg_c tg_n (tg_c tg_n tg_e))) rfl) (ts_p [vv (enc3 (encL (enc2 PyData.int PyData.int)) PyData.int (encL PyData.int)) track, vv (encL (enc2 PyData.int PyData.int)) track.1, vv PyData.int track.2.1, vv (encL PyData.int) track.2.2, none, none, none, none, none, none] rfl (ts_setG (QQ := QF (encL PyData.int)) (eγ := (encL (enc3 PyData.int PyData.int PyData.int))) (t_seq (t_cons (t_get rfl) t_nil) (T_windows _ h.1)) h.2 (fun all_windows hb1 =>
  (ts_p [vv (enc3 (encL (enc2 PyData.int PyData.int)) PyData.int (encL PyData.int)) track, vv (encL (enc2 PyData.int PyData.int)) track.1, vv PyData.int track.2.1, vv (encL PyData.int) track.2.2, vv (encL (enc3 PyData.int PyData.int PyData.int)) all_windows, none, none, none, none, none] rfl (ts_setOG (QQ := QF (encL PyData.int)) (eγ := PyData.int) (t_dsp (t_cons t_c t_nil) (ln_r rfl)) hb1 (fun need hb2 =>
  (ts_p [vv (enc3 (encL (enc2 PyData.int PyData.int)) PyData.int (encL PyData.int)) track, vv (encL (enc2 PyData.int PyData.int)) track.1, vv PyData.int track.2.1, vv (encL PyData.int) track.2.2, vv (encL (enc3 PyData.int PyData.int PyData.int)) all_windows, vo PyData.int need, none, none, none, none] rfl (ts_forG (QQ := QF (encL PyData.int)) (e := PyData.int) (xs := (rngI 0 (track.2.1 + 1))) (eτ := (encL PyData.int)) (F := (fun (need2 : (List Int)) (k : Int) =>
  (need2 ++ [(minL ((all_windows.filter fun piece_first_last => ((decide (piece_first_last.2.1 ≤ k)) && (decide (k ≤ piece_first_last.2.2)))).map fun piece_first_last => ((need2.getD (piece_first_last.2.1).toNat 0) + (track.2.2.getD (piece_first_last.1).toNat 0))))]))) (S := (fun (need2 : (List Int)) (k : Int) => all_windows.length ≤ sizeLine ∧ (∀ piece_first_last ∈ all_windows, ((decide (piece_first_last.2.1 ≤ k)) && (decide (k ≤ piece_first_last.2.2))) = true → ixOk need2.length piece_first_last.2.1 ∧ ixOk track.2.2.length piece_first_last.1) ∧ (((all_windows.filter fun piece_first_last => ((decide (piece_first_last.2.1 ≤ k)) && (decide (k ≤ piece_first_last.2.2)))).map fun piece_first_last => ((need2.getD (piece_first_last.2.1).toNat 0) + (track.2.2.getD (piece_first_last.1).toNat 0))) ≠ []) ∧ need2.length < sizeLine)) (E := fun (need2 : (List Int)) => [vv (enc3 (encL (enc2 PyData.int PyData.int)) PyData.int (encL PyData.int)) track, vv (encL (enc2 PyData.int PyData.int)) track.1, vv PyData.int track.2.1, vv (encL PyData.int) track.2.2, vv (encL (enc3 PyData.int PyData.int PyData.int)) all_windows, vo PyData.int need2, none, none, none, none]) (.is (.is (.is (.is (.is (.is (.any (.is (.is (.is .nil)))))))))) (t_wk (t_cons (t_2 (t_get rfl) t_c f_add) t_nil) (f_rng1 hb2.1)) hb2.2 (fun need2 k => tg_n) (fun need2 k hx4 hb3 =>
  (ts_p [vv (enc3 (encL (enc2 PyData.int PyData.int)) PyData.int (encL PyData.int)) track, vv (encL (enc2 PyData.int PyData.int)) track.1, vv PyData.int track.2.1, vv (encL PyData.int) track.2.2, vv (encL (enc3 PyData.int PyData.int PyData.int)) all_windows, vo PyData.int need2, vv PyData.int k, none, none, none] rfl (ts_end (ts_app (e := PyData.int) rfl (t_call (t_cons (t_L (t_lc (e := (enc3 PyData.int PyData.int PyData.int)) (xs := all_windows) (e' := PyData.int) (t_items (t_get rfl) f_items) hb3.1 (fun piece_first_last => (tg_t (tg_c tg_n (tg_c tg_n (tg_c tg_n tg_e))) rfl)) (fun piece_first_last hx5 => (tm_p [vv (enc3 (encL (enc2 PyData.int PyData.int)) PyData.int (encL PyData.int)) track, vv (encL (enc2 PyData.int PyData.int)) track.1, vv PyData.int track.2.1, vv (encL PyData.int) track.2.2, vv (encL (enc3 PyData.int PyData.int PyData.int)) all_windows, vo PyData.int need2, vv PyData.int k, vv PyData.int piece_first_last.1, vv PyData.int piece_first_last.2.1, vv PyData.int piece_first_last.2.2] rfl (t_B (t_chain (t_get rfl) (t_get rfl) f_le (fun hc6 => (t_get rfl)) (fun hc6 => f_le))))) (fun piece_first_last hx5 hc7 => (tm_p [vv (enc3 (encL (enc2 PyData.int PyData.int)) PyData.int (encL PyData.int)) track, vv (encL (enc2 PyData.int PyData.int)) track.1, vv PyData.int track.2.1, vv (encL PyData.int) track.2.2, vv (encL (enc3 PyData.int PyData.int PyData.int)) all_windows, vo PyData.int need2, vv PyData.int k, vv PyData.int piece_first_last.1, vv PyData.int piece_first_last.2.1, vv PyData.int piece_first_last.2.2] rfl (t_2 (t_ixO rfl (t_get rfl) (f_idxL (d := 0) (hb3.2.1 piece_first_last hx5 hc7).1)) (t_2 (t_get rfl) (t_get rfl) (f_idxL (d := 0) (hb3.2.1 piece_first_last hx5 hc7).2)) f_add))))) t_nil) (f_minL hb3.2.2.1)) hb3.2.2.2 (ts_p [vv (enc3 (encL (enc2 PyData.int PyData.int)) PyData.int (encL PyData.int)) track, vv (encL (enc2 PyData.int PyData.int)) track.1, vv PyData.int track.2.1, vv (encL PyData.int) track.2.2, vv (encL (enc3 PyData.int PyData.int PyData.int)) all_windows, vo PyData.int (need2 ++ [(minL ((all_windows.filter fun piece_first_last => ((decide (piece_first_last.2.1 ≤ k)) && (decide (k ≤ piece_first_last.2.2)))).map fun piece_first_last => ((need2.getD (piece_first_last.2.1).toNat 0) + (track.2.2.getD (piece_first_last.1).toNat 0))))]), vv PyData.int k, none, none, none] rfl (ts_finL (.is (.is (.is (.is (.is (.is (.any (.is (.is (.is .nil)))))))))))))))) (show bnd _ (fun _ => True) from trivial) (fun need22 hb8 =>
  (ts_p [vv (enc3 (encL (enc2 PyData.int PyData.int)) PyData.int (encL PyData.int)) track, vv (encL (enc2 PyData.int PyData.int)) track.1, vv PyData.int track.2.1, vv (encL PyData.int) track.2.2, vv (encL (enc3 PyData.int PyData.int PyData.int)) all_windows, vo PyData.int need22, none, none, none, none] rfl (ts_end (ts_fz (ts_p [vv (enc3 (encL (enc2 PyData.int PyData.int)) PyData.int (encL PyData.int)) track, vv (encL (enc2 PyData.int PyData.int)) track.1, vv PyData.int track.2.1, vv (encL PyData.int) track.2.2, vv (encL (enc3 PyData.int PyData.int PyData.int)) all_windows, vv (encL PyData.int) need22, none, none, none, none] rfl (ts_retF (t_get rfl))))))))))))))))))
noncomputable def F_last_of_cover (track : ((List (Int × Int)) × Int × (List Int))) (need : (List Int)) (k : Int) : (Option (Int × Int)) :=
  (Lp.el (loopR (fun (s : Unit) (piece_first_last : (Int × Int × Int)) => ((if (((decide (piece_first_last.2.1 ≤ (k - 1))) && (decide ((k - 1) ≤ piece_first_last.2.2))) && (decide (((need.getD (piece_first_last.2.1).toNat 0) + (track.2.2.getD (piece_first_last.1).toNat 0)) = (need.getD (k).toNat 0)))) = true then Stp.rt (some (piece_first_last.1, piece_first_last.2.1))
  else Stp.nx ()) : Stp (Unit) (Option (Int × Int)))) (F_windows track) ()) (fun v => v) fun (s2 : Unit) =>
  none)
def S_last_of_cover (track : ((List (Int × Int)) × Int × (List Int))) (need : (List Int)) (k : Int) : Prop :=
  S_windows track ∧ LpR (fun (s : Unit) (piece_first_last : (Int × Int × Int)) => (((decide (piece_first_last.2.1 ≤ (k - 1))) && (decide ((k - 1) ≤ piece_first_last.2.2))) = true → ixOk need.length piece_first_last.2.1 ∧ ixOk track.2.2.length piece_first_last.1 ∧ ixOk need.length k)) (fun (s : Unit) (piece_first_last : (Int × Int × Int)) => ((if (((decide (piece_first_last.2.1 ≤ (k - 1))) && (decide ((k - 1) ≤ piece_first_last.2.2))) && (decide (((need.getD (piece_first_last.2.1).toNat 0) + (track.2.2.getD (piece_first_last.1).toNat 0)) = (need.getD (k).toNat 0)))) = true then Stp.rt (some (piece_first_last.1, piece_first_last.2.1))
  else Stp.nx ()) : Stp (Unit) (Option (Int × Int)))) (F_windows track) ()
theorem T_last_of_cover (track : ((List (Int × Int)) × Int × (List Int))) (need : (List Int)) (k : Int) (h : S_last_of_cover track need k) : m_last_of_cover [(enc3 (encL (enc2 PyData.int PyData.int)) PyData.int (encL PyData.int)) track, (encL PyData.int) need, PyData.int k] = .ok ((encO (enc2 PyData.int PyData.int)) (F_last_of_cover track need k)) :=
  t_fn (b := b_last_of_cover) (eτ := (encO (enc2 PyData.int PyData.int))) rfl
  ((ts_p [vv (enc3 (encL (enc2 PyData.int PyData.int)) PyData.int (encL PyData.int)) track, vv (encL PyData.int) need, vv PyData.int k, none, none, none] rfl (ts_forRU (QQ := QF (encO (enc2 PyData.int PyData.int))) (e := (enc3 PyData.int PyData.int PyData.int)) (xs := (F_windows track)) (eτ := (encO (enc2 PyData.int PyData.int))) (F := (fun (s : Unit) (piece_first_last : (Int × Int × Int)) => ((if (((decide (piece_first_last.2.1 ≤ (k - 1))) && (decide ((k - 1) ≤ piece_first_last.2.2))) && (decide (((need.getD (piece_first_last.2.1).toNat 0) + (track.2.2.getD (piece_first_last.1).toNat 0)) = (need.getD (k).toNat 0)))) = true then Stp.rt (some (piece_first_last.1, piece_first_last.2.1))
  else Stp.nx ()) : Stp (Unit) (Option (Int × Int))))) (S := (fun (s : Unit) (piece_first_last : (Int × Int × Int)) => (((decide (piece_first_last.2.1 ≤ (k - 1))) && (decide ((k - 1) ≤ piece_first_last.2.2))) = true → ixOk need.length piece_first_last.2.1 ∧ ixOk track.2.2.length piece_first_last.1 ∧ ixOk need.length k))) (E := fun (s : Unit) => [vv (enc3 (encL (enc2 PyData.int PyData.int)) PyData.int (encL PyData.int)) track, vv (encL PyData.int) need, vv PyData.int k, none, none, none]) (K := fun v => v) (fun _ _ => kF) (.is (.is (.is (.any (.any (.any .nil)))))) (t_items (t_seq (t_cons (t_get rfl) t_nil) (T_windows _ h.1)) f_items) h.2 (fun s piece_first_last => (tg_t (tg_c tg_n (tg_c tg_n (tg_c tg_n tg_e))) rfl)) (fun s piece_first_last hx2 hb1 =>
  (ts_p [vv (enc3 (encL (enc2 PyData.int PyData.int)) PyData.int (encL PyData.int)) track, vv (encL PyData.int) need, vv PyData.int k, vv PyData.int piece_first_last.1, vv PyData.int piece_first_last.2.1, vv PyData.int piece_first_last.2.2] rfl (ts_end (ts_if (QQ := QL _ (encO (enc2 PyData.int PyData.int))) (t_andB (t_B (t_chain (t_get rfl) (t_2 (t_get rfl) t_c f_sub) f_le (fun hc3 => (t_get rfl)) (fun hc3 => f_le))) fun hc4 => (t_B (t_2 (t_2 (t_2 (t_get rfl) (t_get rfl) (f_idxL (d := 0) (hb1 hc4).1)) (t_2 (t_2 (t_get rfl) t_c (f_i2 _ _ _ _)) (t_get rfl) (f_idxL (d := 0) (hb1 hc4).2.1)) f_add) (t_2 (t_get rfl) (t_get rfl) (f_idxL (d := 0) (hb1 hc4).2.2)) (f_eq eqe_I)))) (fun hc5 => (ts_retL (t_as (encO (enc2 PyData.int PyData.int)) (some (piece_first_last.1, piece_first_last.2.1)) (t_as (enc2 PyData.int PyData.int) (piece_first_last.1, piece_first_last.2.1) (t_seq (t_cons (t_get rfl) (t_cons (t_get rfl) t_nil)) (mTup_ok rfl))))))
  (fun hc5 => (ts_nx (ts_p [vv (enc3 (encL (enc2 PyData.int PyData.int)) PyData.int (encL PyData.int)) track, vv (encL PyData.int) need, vv PyData.int k, vv PyData.int piece_first_last.1, vv PyData.int piece_first_last.2.1, vv PyData.int piece_first_last.2.2] rfl (ts_finL (.is (.is (.is (.any (.any (.any .nil)))))))))))))) (fun s2 hb6 =>
  (ts_p [vv (enc3 (encL (enc2 PyData.int PyData.int)) PyData.int (encL PyData.int)) track, vv (encL PyData.int) need, vv PyData.int k, none, none, none] rfl (ts_end (ts_retF (t_as (encO (enc2 PyData.int PyData.int)) none t_c))))))))
noncomputable def F_least_cover (track : ((List (Int × Int)) × Int × (List Int))) (need : (List Int)) : (List Int) :=
  (bnd ((need.length : Int) - 1) fun (k : Int) =>
  (Lp.el (whR (fun (s : (List Int) × Int) => (decide (0 < s.2))) (fun (s : (List Int) × Int) => ((bnd ((F_last_of_cover track need s.2).getD (0, 0)) fun (piece_k : (Int × Int)) =>
  Stp.nx ((s.1 ++ [piece_k.1]), piece_k.2)) : Stp ((List Int) × Int) (List Int))) 1000000000000 ([], k)) (fun v => v) fun (s2 : (List Int) × Int) =>
  (s2.1.mergeSort leI)))
def S_least_cover (track : ((List (Int × Int)) × Int × (List Int))) (need : (List Int)) : Prop :=
  (bnd ((need.length : Int) - 1) fun (k : Int) => (whS (fun (s : (List Int) × Int) => True) (fun (s : (List Int) × Int) => S_last_of_cover track need s.2 ∧ (F_last_of_cover track need s.2).isSome = true ∧ (bnd ((F_last_of_cover track need s.2).getD (0, 0)) fun (piece_k : (Int × Int)) => s.1.length < sizeLine)) (fun (s : (List Int) × Int) => (decide (0 < s.2))) (fun (s : (List Int) × Int) => ((bnd ((F_last_of_cover track need s.2).getD (0, 0)) fun (piece_k : (Int × Int)) =>
  Stp.nx ((s.1 ++ [piece_k.1]), piece_k.2)) : Stp ((List Int) × Int) (List Int))) 1000000000000 ([], k)))
theorem T_least_cover (track : ((List (Int × Int)) × Int × (List Int))) (need : (List Int)) (h : S_least_cover track need) : m_least_cover [(enc3 (encL (enc2 PyData.int PyData.int)) PyData.int (encL PyData.int)) track, (encL PyData.int) need] = .ok ((encL PyData.int) (F_least_cover track need)) :=
  t_fn (b := b_least_cover) (eτ := (encL PyData.int)) rfl
  ((ts_p [vv (enc3 (encL (enc2 PyData.int PyData.int)) PyData.int (encL PyData.int)) track, vv (encL PyData.int) need, none, none, none] rfl (ts_setO (t_dsp t_nil (ln_r rfl)) (ts_p [vv (enc3 (encL (enc2 PyData.int PyData.int)) PyData.int (encL PyData.int)) track, vv (encL PyData.int) need, vo PyData.int [], none, none] rfl (ts_setG (QQ := QF (encL PyData.int)) (eγ := PyData.int) (t_2 (t_call (t_cons (t_get rfl) t_nil) f_lenL) t_c f_sub) h (fun k hb1 =>
  (ts_p [vv (enc3 (encL (enc2 PyData.int PyData.int)) PyData.int (encL PyData.int)) track, vv (encL PyData.int) need, vo PyData.int [], vv PyData.int k, none] rfl (ts_whileU (QQ := QF (encL PyData.int)) (eτ := (encL PyData.int)) (E := fun (s : (List Int) × Int) => [vv (enc3 (encL (enc2 PyData.int PyData.int)) PyData.int (encL PyData.int)) track, vv (encL PyData.int) need, vo PyData.int s.1, vv PyData.int s.2, none]) (K := fun v => v) (fun _ _ => kF) (.is (.is (.is (.is (.any .nil))))) hb1 (fun s ht4 => (t_B (t_2 (t_get rfl) t_c f_gt))) (fun s hc3 hb2 =>
  (ts_p [vv (enc3 (encL (enc2 PyData.int PyData.int)) PyData.int (encL PyData.int)) track, vv (encL PyData.int) need, vo PyData.int s.1, vv PyData.int s.2, none] rfl (ts_asgG (QQ := QL _ (encL PyData.int)) (eγ := (enc2 PyData.int PyData.int)) (t_unO (d := (0, 0)) (t_seq (t_cons (t_get rfl) (t_cons (t_get rfl) (t_cons (t_get rfl) t_nil))) (T_last_of_cover _ _ _ hb2.1)) hb2.2.1) hb2.2.2 (fun piece_k => (tg_t (tg_c tg_n (tg_c tg_n tg_e)) rfl)) (fun piece_k hb5 =>
  (ts_p [vv (enc3 (encL (enc2 PyData.int PyData.int)) PyData.int (encL PyData.int)) track, vv (encL PyData.int) need, vo PyData.int s.1, vv PyData.int piece_k.2, vv PyData.int piece_k.1] rfl (ts_end (ts_app (e := PyData.int) rfl (t_get rfl) hb5 (ts_p [vv (enc3 (encL (enc2 PyData.int PyData.int)) PyData.int (encL PyData.int)) track, vv (encL PyData.int) need, vo PyData.int (s.1 ++ [piece_k.1]), vv PyData.int piece_k.2, vv PyData.int piece_k.1] rfl (ts_finL (.is (.is (.is (.is (.any .nil)))))))))))))) (fun s2 hb6 =>
  (ts_p [vv (enc3 (encL (enc2 PyData.int PyData.int)) PyData.int (encL PyData.int)) track, vv (encL PyData.int) need, vo PyData.int s2.1, vv PyData.int s2.2, none] rfl (ts_end (ts_fz (ts_p [vv (enc3 (encL (enc2 PyData.int PyData.int)) PyData.int (encL PyData.int)) track, vv (encL PyData.int) need, vv (encL PyData.int) s2.1, vv PyData.int s2.2, none] rfl (ts_retF (t_call (t_cons (t_get rfl) t_nil) f_sortI)))))))))))))))
noncomputable def F_most_years (track : ((List (Int × Int)) × Int × (List Int))) : (Int × (List Int) × (List Int)) :=
  (bnd (F_least_needs track) fun (need : (List Int)) =>
  (bnd ((rngI 0 ((need.length : Int) - 1)).map fun k => ((need.getD ((k + 1)).toNat 0) - (need.getD (k).toNat 0))) fun (plan : (List Int)) =>
  ((need.getLastD 0), plan, (F_least_cover track need))))
def S_most_years (track : ((List (Int × Int)) × Int × (List Int))) : Prop :=
  S_least_needs track ∧ (bnd (F_least_needs track) fun (need : (List Int)) => r62 ((need.length : Int) - 1) ∧ (rngI 0 ((need.length : Int) - 1)).length ≤ sizeLine ∧ (∀ k ∈ (rngI 0 ((need.length : Int) - 1)), ixOk need.length (k + 1) ∧ ixOk need.length k) ∧ (bnd ((rngI 0 ((need.length : Int) - 1)).map fun k => ((need.getD ((k + 1)).toNat 0) - (need.getD (k).toNat 0))) fun (plan : (List Int)) => need ≠ [] ∧ S_least_cover track need))
theorem T_most_years (track : ((List (Int × Int)) × Int × (List Int))) (h : S_most_years track) : m_most_years [(enc3 (encL (enc2 PyData.int PyData.int)) PyData.int (encL PyData.int)) track] = .ok ((enc3 PyData.int (encL PyData.int) (encL PyData.int)) (F_most_years track)) :=
  t_fn (b := b_most_years) (eτ := (enc3 PyData.int (encL PyData.int) (encL PyData.int))) rfl
  ((ts_p [vv (enc3 (encL (enc2 PyData.int PyData.int)) PyData.int (encL PyData.int)) track, none, none, none] rfl (ts_setG (QQ := QF (enc3 PyData.int (encL PyData.int) (encL PyData.int))) (eγ := (encL PyData.int)) (t_seq (t_cons (t_get rfl) t_nil) (T_least_needs _ h.1)) h.2 (fun need hb1 =>
  (ts_p [vv (enc3 (encL (enc2 PyData.int PyData.int)) PyData.int (encL PyData.int)) track, vv (encL PyData.int) need, none, none] rfl (ts_setLG (QQ := QF (enc3 PyData.int (encL PyData.int) (encL PyData.int))) (eγ := PyData.int) (t_lc0 (e := PyData.int) (xs := (rngI 0 ((need.length : Int) - 1))) (e' := PyData.int) (t_wk (t_cons (t_2 (t_call (t_cons (t_get rfl) t_nil) f_lenL) t_c f_sub) t_nil) (f_rng1 hb1.1)) hb1.2.1 (fun k => tg_n) (fun k hx2 => (tm_p [vv (enc3 (encL (enc2 PyData.int PyData.int)) PyData.int (encL PyData.int)) track, vv (encL PyData.int) need, none, vv PyData.int k] rfl (t_2 (t_2 (t_get rfl) (t_2 (t_get rfl) t_c f_add) (f_idxL (d := 0) (hb1.2.2.1 k hx2).1)) (t_2 (t_get rfl) (t_get rfl) (f_idxL (d := 0) (hb1.2.2.1 k hx2).2)) f_sub)))) hb1.2.2.2 (fun plan hb3 =>
  (ts_p [vv (enc3 (encL (enc2 PyData.int PyData.int)) PyData.int (encL PyData.int)) track, vv (encL PyData.int) need, vv (encL PyData.int) plan, none] rfl (ts_end (ts_retF (t_as (enc3 PyData.int (encL PyData.int) (encL PyData.int)) ((need.getLastD 0), plan, (F_least_cover track need)) (t_seq (t_cons (t_2 (t_get rfl) (t_1 t_c f_neg) (f_last hb3.1)) (t_cons (t_get rfl) (t_cons (t_seq (t_cons (t_get rfl) (t_cons (t_get rfl) t_nil)) (T_least_cover _ _ hb3.2)) t_nil))) (mTup_ok rfl)))))))))))))
noncomputable def F_law_window (track : ((List (Int × Int)) × Int × (List Int))) (piece : Int) : (Option (Int × Int)) :=
  (bnd ((rngI 0 (track.2.1 + 1)).foldl (fun (found : (List Int)) (offset : Int) =>
  (bnd (track.1.foldl (fun (found2 : (List Int)) (place_width : (Int × Int)) =>
  (if ((decide ((place_width.1 + offset) ≤ piece)) && (decide (piece < ((place_width.1 + offset) + place_width.2)))) = true then (found2 ++ [offset])
  else found2)) found) fun (found22 : (List Int)) =>
  found22)) []) fun (found3 : (List Int)) =>
  (if (decide ((found3.length : Int) = 0)) = true then none
  else (some ((found3.getD 0 0), (found3.getD (((found3.length : Int) - 1)).toNat 0)))))
def S_law_window (track : ((List (Int × Int)) × Int × (List Int))) (piece : Int) : Prop :=
  r62 (track.2.1 + 1) ∧ LpS (fun (found : (List Int)) (offset : Int) => LpS (fun (found2 : (List Int)) (place_width : (Int × Int)) => (((decide ((place_width.1 + offset) ≤ piece)) && (decide (piece < ((place_width.1 + offset) + place_width.2)))) = true → found2.length < sizeLine)) (fun (found2 : (List Int)) (place_width : (Int × Int)) =>
  (if ((decide ((place_width.1 + offset) ≤ piece)) && (decide (piece < ((place_width.1 + offset) + place_width.2)))) = true then (found2 ++ [offset])
  else found2)) track.1 found) (fun (found : (List Int)) (offset : Int) =>
  (bnd (track.1.foldl (fun (found2 : (List Int)) (place_width : (Int × Int)) =>
  (if ((decide ((place_width.1 + offset) ≤ piece)) && (decide (piece < ((place_width.1 + offset) + place_width.2)))) = true then (found2 ++ [offset])
  else found2)) found) fun (found22 : (List Int)) =>
  found22)) (rngI 0 (track.2.1 + 1)) [] ∧ (bnd ((rngI 0 (track.2.1 + 1)).foldl (fun (found : (List Int)) (offset : Int) =>
  (bnd (track.1.foldl (fun (found2 : (List Int)) (place_width : (Int × Int)) =>
  (if ((decide ((place_width.1 + offset) ≤ piece)) && (decide (piece < ((place_width.1 + offset) + place_width.2)))) = true then (found2 ++ [offset])
  else found2)) found) fun (found22 : (List Int)) =>
  found22)) []) fun (found3 : (List Int)) => ((decide ((found3.length : Int) = 0)) = false → 0 < found3.length ∧ ixOk found3.length ((found3.length : Int) - 1)))
theorem T_law_window (track : ((List (Int × Int)) × Int × (List Int))) (piece : Int) (h : S_law_window track piece) : m_law_window [(enc3 (encL (enc2 PyData.int PyData.int)) PyData.int (encL PyData.int)) track, PyData.int piece] = .ok ((encO (enc2 PyData.int PyData.int)) (F_law_window track piece)) :=
  t_fn (b := b_law_window) (eτ := (encO (enc2 PyData.int PyData.int))) rfl
  ((ts_p [vv (enc3 (encL (enc2 PyData.int PyData.int)) PyData.int (encL PyData.int)) track, vv PyData.int piece, none, none, none, none, none, none, none] rfl (ts_asg (t_get rfl) (tg_t (tg_c tg_n (tg_c tg_n (tg_c tg_n tg_e))) rfl) (ts_p [vv (enc3 (encL (enc2 PyData.int PyData.int)) PyData.int (encL PyData.int)) track, vv PyData.int piece, vv (encL (enc2 PyData.int PyData.int)) track.1, vv PyData.int track.2.1, vv (encL PyData.int) track.2.2, none, none, none, none] rfl (ts_setO (t_dsp t_nil (ln_r rfl)) (ts_p [vv (enc3 (encL (enc2 PyData.int PyData.int)) PyData.int (encL PyData.int)) track, vv PyData.int piece, vv (encL (enc2 PyData.int PyData.int)) track.1, vv PyData.int track.2.1, vv (encL PyData.int) track.2.2, vo PyData.int [], none, none, none] rfl (ts_forG (QQ := QF (encO (enc2 PyData.int PyData.int))) (e := PyData.int) (xs := (rngI 0 (track.2.1 + 1))) (eτ := (encO (enc2 PyData.int PyData.int))) (F := (fun (found : (List Int)) (offset : Int) =>
  (bnd (track.1.foldl (fun (found2 : (List Int)) (place_width : (Int × Int)) =>
  (if ((decide ((place_width.1 + offset) ≤ piece)) && (decide (piece < ((place_width.1 + offset) + place_width.2)))) = true then (found2 ++ [offset])
  else found2)) found) fun (found22 : (List Int)) =>
  found22))) (S := (fun (found : (List Int)) (offset : Int) => LpS (fun (found2 : (List Int)) (place_width : (Int × Int)) => (((decide ((place_width.1 + offset) ≤ piece)) && (decide (piece < ((place_width.1 + offset) + place_width.2)))) = true → found2.length < sizeLine)) (fun (found2 : (List Int)) (place_width : (Int × Int)) =>
  (if ((decide ((place_width.1 + offset) ≤ piece)) && (decide (piece < ((place_width.1 + offset) + place_width.2)))) = true then (found2 ++ [offset])
  else found2)) track.1 found)) (E := fun (found : (List Int)) => [vv (enc3 (encL (enc2 PyData.int PyData.int)) PyData.int (encL PyData.int)) track, vv PyData.int piece, vv (encL (enc2 PyData.int PyData.int)) track.1, vv PyData.int track.2.1, vv (encL PyData.int) track.2.2, vo PyData.int found, none, none, none]) (.is (.is (.is (.is (.is (.is (.any (.any (.any .nil))))))))) (t_wk (t_cons (t_2 (t_get rfl) t_c f_add) t_nil) (f_rng1 h.1)) h.2.1 (fun found offset => tg_n) (fun found offset hx2 hb1 =>
  (ts_p [vv (enc3 (encL (enc2 PyData.int PyData.int)) PyData.int (encL PyData.int)) track, vv PyData.int piece, vv (encL (enc2 PyData.int PyData.int)) track.1, vv PyData.int track.2.1, vv (encL PyData.int) track.2.2, vo PyData.int found, vv PyData.int offset, none, none] rfl (ts_end (ts_forG (QQ := fun z => QL _ (encO (enc2 PyData.int PyData.int)) (Stp.nx z)) (e := (enc2 PyData.int PyData.int)) (xs := track.1) (eτ := (encO (enc2 PyData.int PyData.int))) (F := (fun (found2 : (List Int)) (place_width : (Int × Int)) =>
  (if ((decide ((place_width.1 + offset) ≤ piece)) && (decide (piece < ((place_width.1 + offset) + place_width.2)))) = true then (found2 ++ [offset])
  else found2))) (S := (fun (found2 : (List Int)) (place_width : (Int × Int)) => (((decide ((place_width.1 + offset) ≤ piece)) && (decide (piece < ((place_width.1 + offset) + place_width.2)))) = true → found2.length < sizeLine))) (E := fun (found2 : (List Int)) => [vv (enc3 (encL (enc2 PyData.int PyData.int)) PyData.int (encL PyData.int)) track, vv PyData.int piece, vv (encL (enc2 PyData.int PyData.int)) track.1, vv PyData.int track.2.1, vv (encL PyData.int) track.2.2, vo PyData.int found2, vv PyData.int offset, none, none]) (.is (.is (.is (.is (.is (.is (.is (.any (.any .nil))))))))) (t_items (t_get rfl) f_items) hb1 (fun found2 place_width => (tg_t (tg_c tg_n (tg_c tg_n tg_e)) rfl)) (fun found2 place_width hx4 hb3 =>
  (ts_p [vv (enc3 (encL (enc2 PyData.int PyData.int)) PyData.int (encL PyData.int)) track, vv PyData.int piece, vv (encL (enc2 PyData.int PyData.int)) track.1, vv PyData.int track.2.1, vv (encL PyData.int) track.2.2, vo PyData.int found2, vv PyData.int offset, vv PyData.int place_width.1, vv PyData.int place_width.2] rfl (ts_end (ts_if (QQ := fun z => QL _ (encO (enc2 PyData.int PyData.int)) (Stp.nx z)) (t_andB (t_B (t_2 (t_2 (t_get rfl) (t_get rfl) f_add) (t_get rfl) f_le)) fun hc5 => (t_B (t_2 (t_get rfl) (t_2 (t_2 (t_get rfl) (t_get rfl) f_add) (t_get rfl) f_add) f_lt))) (fun hc6 => (ts_app (e := PyData.int) rfl (t_get rfl) (hb3 hc6) (ts_p [vv (enc3 (encL (enc2 PyData.int PyData.int)) PyData.int (encL PyData.int)) track, vv PyData.int piece, vv (encL (enc2 PyData.int PyData.int)) track.1, vv PyData.int track.2.1, vv (encL PyData.int) track.2.2, vo PyData.int (found2 ++ [offset]), vv PyData.int offset, vv PyData.int place_width.1, vv PyData.int place_width.2] rfl (ts_finL (.is (.is (.is (.is (.is (.is (.is (.any (.any .nil)))))))))))))
  (fun hc6 => (ts_nx (ts_p [vv (enc3 (encL (enc2 PyData.int PyData.int)) PyData.int (encL PyData.int)) track, vv PyData.int piece, vv (encL (enc2 PyData.int PyData.int)) track.1, vv PyData.int track.2.1, vv (encL PyData.int) track.2.2, vo PyData.int found2, vv PyData.int offset, vv PyData.int place_width.1, vv PyData.int place_width.2] rfl (ts_finL (.is (.is (.is (.is (.is (.is (.is (.any (.any .nil))))))))))))))))) (show bnd _ (fun _ => True) from trivial) (fun found22 hb7 =>
  (ts_p [vv (enc3 (encL (enc2 PyData.int PyData.int)) PyData.int (encL PyData.int)) track, vv PyData.int piece, vv (encL (enc2 PyData.int PyData.int)) track.1, vv PyData.int track.2.1, vv (encL PyData.int) track.2.2, vo PyData.int found22, vv PyData.int offset, none, none] rfl (ts_finL (.is (.is (.is (.is (.is (.is (.any (.any (.any .nil)))))))))))))))) h.2.2 (fun found3 hb8 =>
  (ts_p [vv (enc3 (encL (enc2 PyData.int PyData.int)) PyData.int (encL PyData.int)) track, vv PyData.int piece, vv (encL (enc2 PyData.int PyData.int)) track.1, vv PyData.int track.2.1, vv (encL PyData.int) track.2.2, vo PyData.int found3, none, none, none] rfl (ts_if (QQ := QF (encO (enc2 PyData.int PyData.int))) (t_B (t_2 (t_bor (tm_p [vv (enc3 (encL (enc2 PyData.int PyData.int)) PyData.int (encL PyData.int)) track, vv PyData.int piece, vv (encL (enc2 PyData.int PyData.int)) track.1, vv PyData.int track.2.1, vv (encL PyData.int) track.2.2, vv (encL PyData.int) found3, none, none, none] rfl (t_call (t_cons (t_get rfl) t_nil) f_lenL)) rfl) t_c (f_eq eqe_I))) (fun hc9 => (ts_retF (t_as (encO (enc2 PyData.int PyData.int)) none t_c)))
  (fun hc9 => (ts_nx (ts_p [vv (enc3 (encL (enc2 PyData.int PyData.int)) PyData.int (encL PyData.int)) track, vv PyData.int piece, vv (encL (enc2 PyData.int PyData.int)) track.1, vv PyData.int track.2.1, vv (encL PyData.int) track.2.2, vo PyData.int found3, none, none, none] rfl (ts_end (ts_retF (t_as (encO (enc2 PyData.int PyData.int)) (some ((found3.getD 0 0), (found3.getD (((found3.length : Int) - 1)).toNat 0))) (t_as (enc2 PyData.int PyData.int) ((found3.getD 0 0), (found3.getD (((found3.length : Int) - 1)).toNat 0)) (t_seq (t_cons (t_ixO rfl t_c (f_idxK (d := 0) 0 rfl (hb8 hc9).1)) (t_cons (t_ixO rfl (t_2 (t_bor (tm_p [vv (enc3 (encL (enc2 PyData.int PyData.int)) PyData.int (encL PyData.int)) track, vv PyData.int piece, vv (encL (enc2 PyData.int PyData.int)) track.1, vv PyData.int track.2.1, vv (encL PyData.int) track.2.2, vv (encL PyData.int) found3, none, none, none] rfl (t_call (t_cons (t_get rfl) t_nil) f_lenL)) rfl) t_c f_sub) (f_idxL (d := 0) (hb8 hc9).2)) t_nil)) (mTup_ok rfl)))))))))))))))))))
noncomputable def F_law_paper (track : ((List (Int × Int)) × Int × (List Int))) : (Int × (List Int) × (List Int)) :=
  (bnd ((rngI 0 (track.2.2.length : Int)).map fun piece => (F_law_window track piece)) fun (windows_v : (List (Option (Int × Int)))) =>
  (bnd ([0] : List Int) fun (need : (List Int)) =>
  (bnd ((rngI 0 (track.2.1 + 1)).foldl (fun (need2 : (List Int)) (k : Int) =>
  (bnd ((rngI 0 (track.2.2.length : Int)).foldl (fun (some_ : (List Int)) (piece2 : Int) =>
  (if ((windows_v.getD (piece2).toNat none).isSome && ((decide (((windows_v.getD (piece2).toNat none).getD (0, 0)).1 ≤ k)) && (decide (k ≤ ((windows_v.getD (piece2).toNat none).getD (0, 0)).2)))) = true then (some_ ++ [((need2.getD (((windows_v.getD (piece2).toNat none).getD (0, 0)).1).toNat 0) + (track.2.2.getD (piece2).toNat 0))])
  else some_)) []) fun (some_2 : (List Int)) =>
  (need2 ++ [(minL some_2)]))) need) fun (need22 : (List Int)) =>
  (bnd (track.2.1 + 1) fun (k2 : Int) =>
  (bnd ((rngI 0 (track.2.1 + 1)).foldl (fun (s : Int × (List Int)) (step : Int) =>
  (bnd ((rngI 0 (track.2.2.length : Int)).foldl (fun (chosen : (Option Int)) (piece3 : Int) =>
  (if ((decide (0 < s.1)) && (chosen.isNone && ((windows_v.getD (piece3).toNat none).isSome && ((decide (((windows_v.getD (piece3).toNat none).getD (0, 0)).1 < s.1)) && (decide ((s.1 - 1) ≤ ((windows_v.getD (piece3).toNat none).getD (0, 0)).2)))))) = true then (if (decide (((need22.getD (((windows_v.getD (piece3).toNat none).getD (0, 0)).1).toNat 0) + (track.2.2.getD (piece3).toNat 0)) = (need22.getD (s.1).toNat 0))) = true then (some piece3)
  else chosen)
  else chosen)) none) fun (chosen2 : (Option Int)) =>
  (if chosen2.isSome = true then (bnd ((windows_v.getD ((chosen2.getD 0)).toNat none).getD (0, 0)).1 fun (k3 : Int) =>
  (k3, (s.2 ++ [(chosen2.getD 0)])))
  else (s.1, s.2)))) (k2, [])) fun (s2 : Int × (List Int)) =>
  ((need22.getD ((track.2.1 + 1)).toNat 0), ((rngI 0 (track.2.1 + 1)).map fun k4 => ((need22.getD ((k4 + 1)).toNat 0) - (need22.getD (k4).toNat 0))), (s2.2.mergeSort leI)))))))
def S_law_paper (track : ((List (Int × Int)) × Int × (List Int))) : Prop :=
  r62 (track.2.2.length : Int) ∧ (rngI 0 (track.2.2.length : Int)).length ≤ sizeLine ∧ (∀ piece ∈ (rngI 0 (track.2.2.length : Int)), S_law_window track piece) ∧ (bnd ((rngI 0 (track.2.2.length : Int)).map fun piece => (F_law_window track piece)) fun (windows_v : (List (Option (Int × Int)))) => (bnd ([0] : List Int) fun (need : (List Int)) => r62 (track.2.1 + 1) ∧ LpS (fun (need2 : (List Int)) (k : Int) => LpS (fun (some_ : (List Int)) (piece2 : Int) => ixOk windows_v.length piece2 ∧ ((windows_v.getD (piece2).toNat none).isSome = true → (windows_v.getD (piece2).toNat none).isSome = true) ∧ (((windows_v.getD (piece2).toNat none).isSome && ((decide (((windows_v.getD (piece2).toNat none).getD (0, 0)).1 ≤ k)) && (decide (k ≤ ((windows_v.getD (piece2).toNat none).getD (0, 0)).2)))) = true → (windows_v.getD (piece2).toNat none).isSome = true ∧ ixOk need2.length ((windows_v.getD (piece2).toNat none).getD (0, 0)).1 ∧ ixOk track.2.2.length piece2 ∧ some_.length < sizeLine)) (fun (some_ : (List Int)) (piece2 : Int) =>
  (if ((windows_v.getD (piece2).toNat none).isSome && ((decide (((windows_v.getD (piece2).toNat none).getD (0, 0)).1 ≤ k)) && (decide (k ≤ ((windows_v.getD (piece2).toNat none).getD (0, 0)).2)))) = true then (some_ ++ [((need2.getD (((windows_v.getD (piece2).toNat none).getD (0, 0)).1).toNat 0) + (track.2.2.getD (piece2).toNat 0))])
  else some_)) (rngI 0 (track.2.2.length : Int)) [] ∧ (bnd ((rngI 0 (track.2.2.length : Int)).foldl (fun (some_ : (List Int)) (piece2 : Int) =>
  (if ((windows_v.getD (piece2).toNat none).isSome && ((decide (((windows_v.getD (piece2).toNat none).getD (0, 0)).1 ≤ k)) && (decide (k ≤ ((windows_v.getD (piece2).toNat none).getD (0, 0)).2)))) = true then (some_ ++ [((need2.getD (((windows_v.getD (piece2).toNat none).getD (0, 0)).1).toNat 0) + (track.2.2.getD (piece2).toNat 0))])
  else some_)) []) fun (some_2 : (List Int)) => some_2 ≠ [] ∧ need2.length < sizeLine)) (fun (need2 : (List Int)) (k : Int) =>
  (bnd ((rngI 0 (track.2.2.length : Int)).foldl (fun (some_ : (List Int)) (piece2 : Int) =>
  (if ((windows_v.getD (piece2).toNat none).isSome && ((decide (((windows_v.getD (piece2).toNat none).getD (0, 0)).1 ≤ k)) && (decide (k ≤ ((windows_v.getD (piece2).toNat none).getD (0, 0)).2)))) = true then (some_ ++ [((need2.getD (((windows_v.getD (piece2).toNat none).getD (0, 0)).1).toNat 0) + (track.2.2.getD (piece2).toNat 0))])
  else some_)) []) fun (some_2 : (List Int)) =>
  (need2 ++ [(minL some_2)]))) (rngI 0 (track.2.1 + 1)) need ∧ (bnd ((rngI 0 (track.2.1 + 1)).foldl (fun (need2 : (List Int)) (k : Int) =>
  (bnd ((rngI 0 (track.2.2.length : Int)).foldl (fun (some_ : (List Int)) (piece2 : Int) =>
  (if ((windows_v.getD (piece2).toNat none).isSome && ((decide (((windows_v.getD (piece2).toNat none).getD (0, 0)).1 ≤ k)) && (decide (k ≤ ((windows_v.getD (piece2).toNat none).getD (0, 0)).2)))) = true then (some_ ++ [((need2.getD (((windows_v.getD (piece2).toNat none).getD (0, 0)).1).toNat 0) + (track.2.2.getD (piece2).toNat 0))])
  else some_)) []) fun (some_2 : (List Int)) =>
  (need2 ++ [(minL some_2)]))) need) fun (need22 : (List Int)) => (bnd (track.2.1 + 1) fun (k2 : Int) => LpS (fun (s : Int × (List Int)) (step : Int) => LpS (fun (chosen : (Option Int)) (piece3 : Int) => ((decide (0 < s.1)) = true → (chosen.isNone = true → ixOk windows_v.length piece3 ∧ ((windows_v.getD (piece3).toNat none).isSome = true → (windows_v.getD (piece3).toNat none).isSome = true))) ∧ (((decide (0 < s.1)) && (chosen.isNone && ((windows_v.getD (piece3).toNat none).isSome && ((decide (((windows_v.getD (piece3).toNat none).getD (0, 0)).1 < s.1)) && (decide ((s.1 - 1) ≤ ((windows_v.getD (piece3).toNat none).getD (0, 0)).2)))))) = true → ixOk windows_v.length piece3 ∧ (windows_v.getD (piece3).toNat none).isSome = true ∧ ixOk need22.length ((windows_v.getD (piece3).toNat none).getD (0, 0)).1 ∧ ixOk track.2.2.length piece3 ∧ ixOk need22.length s.1)) (fun (chosen : (Option Int)) (piece3 : Int) =>
  (if ((decide (0 < s.1)) && (chosen.isNone && ((windows_v.getD (piece3).toNat none).isSome && ((decide (((windows_v.getD (piece3).toNat none).getD (0, 0)).1 < s.1)) && (decide ((s.1 - 1) ≤ ((windows_v.getD (piece3).toNat none).getD (0, 0)).2)))))) = true then (if (decide (((need22.getD (((windows_v.getD (piece3).toNat none).getD (0, 0)).1).toNat 0) + (track.2.2.getD (piece3).toNat 0)) = (need22.getD (s.1).toNat 0))) = true then (some piece3)
  else chosen)
  else chosen)) (rngI 0 (track.2.2.length : Int)) none ∧ (bnd ((rngI 0 (track.2.2.length : Int)).foldl (fun (chosen : (Option Int)) (piece3 : Int) =>
  (if ((decide (0 < s.1)) && (chosen.isNone && ((windows_v.getD (piece3).toNat none).isSome && ((decide (((windows_v.getD (piece3).toNat none).getD (0, 0)).1 < s.1)) && (decide ((s.1 - 1) ≤ ((windows_v.getD (piece3).toNat none).getD (0, 0)).2)))))) = true then (if (decide (((need22.getD (((windows_v.getD (piece3).toNat none).getD (0, 0)).1).toNat 0) + (track.2.2.getD (piece3).toNat 0)) = (need22.getD (s.1).toNat 0))) = true then (some piece3)
  else chosen)
  else chosen)) none) fun (chosen2 : (Option Int)) => (chosen2.isSome = true → chosen2.isSome = true ∧ s.2.length < sizeLine ∧ ixOk windows_v.length (chosen2.getD 0) ∧ (windows_v.getD ((chosen2.getD 0)).toNat none).isSome = true))) (fun (s : Int × (List Int)) (step : Int) =>
  (bnd ((rngI 0 (track.2.2.length : Int)).foldl (fun (chosen : (Option Int)) (piece3 : Int) =>
  (if ((decide (0 < s.1)) && (chosen.isNone && ((windows_v.getD (piece3).toNat none).isSome && ((decide (((windows_v.getD (piece3).toNat none).getD (0, 0)).1 < s.1)) && (decide ((s.1 - 1) ≤ ((windows_v.getD (piece3).toNat none).getD (0, 0)).2)))))) = true then (if (decide (((need22.getD (((windows_v.getD (piece3).toNat none).getD (0, 0)).1).toNat 0) + (track.2.2.getD (piece3).toNat 0)) = (need22.getD (s.1).toNat 0))) = true then (some piece3)
  else chosen)
  else chosen)) none) fun (chosen2 : (Option Int)) =>
  (if chosen2.isSome = true then (bnd ((windows_v.getD ((chosen2.getD 0)).toNat none).getD (0, 0)).1 fun (k3 : Int) =>
  (k3, (s.2 ++ [(chosen2.getD 0)])))
  else (s.1, s.2)))) (rngI 0 (track.2.1 + 1)) (k2, []) ∧ (bnd ((rngI 0 (track.2.1 + 1)).foldl (fun (s : Int × (List Int)) (step : Int) =>
  (bnd ((rngI 0 (track.2.2.length : Int)).foldl (fun (chosen : (Option Int)) (piece3 : Int) =>
  (if ((decide (0 < s.1)) && (chosen.isNone && ((windows_v.getD (piece3).toNat none).isSome && ((decide (((windows_v.getD (piece3).toNat none).getD (0, 0)).1 < s.1)) && (decide ((s.1 - 1) ≤ ((windows_v.getD (piece3).toNat none).getD (0, 0)).2)))))) = true then (if (decide (((need22.getD (((windows_v.getD (piece3).toNat none).getD (0, 0)).1).toNat 0) + (track.2.2.getD (piece3).toNat 0)) = (need22.getD (s.1).toNat 0))) = true then (some piece3)
  else chosen)
  else chosen)) none) fun (chosen2 : (Option Int)) =>
  (if chosen2.isSome = true then (bnd ((windows_v.getD ((chosen2.getD 0)).toNat none).getD (0, 0)).1 fun (k3 : Int) =>
  (k3, (s.2 ++ [(chosen2.getD 0)])))
  else (s.1, s.2)))) (k2, [])) fun (s2 : Int × (List Int)) => ixOk need22.length (track.2.1 + 1) ∧ (rngI 0 (track.2.1 + 1)).length ≤ sizeLine ∧ (∀ k4 ∈ (rngI 0 (track.2.1 + 1)), ixOk need22.length (k4 + 1) ∧ ixOk need22.length k4))))))
theorem T_law_paper (track : ((List (Int × Int)) × Int × (List Int))) (h : S_law_paper track) : m_law_paper [(enc3 (encL (enc2 PyData.int PyData.int)) PyData.int (encL PyData.int)) track] = .ok ((enc3 PyData.int (encL PyData.int) (encL PyData.int)) (F_law_paper track)) :=
  t_fn (b := b_law_paper) (eτ := (enc3 PyData.int (encL PyData.int) (encL PyData.int))) rfl
  ((ts_p [vv (enc3 (encL (enc2 PyData.int PyData.int)) PyData.int (encL PyData.int)) track, none, none, none, none, none, none, none, none, none, none, none] rfl (ts_asg (t_get rfl) (tg_t (tg_c tg_n (tg_c tg_n (tg_c tg_n tg_e))) rfl) (ts_p [vv (enc3 (encL (enc2 PyData.int PyData.int)) PyData.int (encL PyData.int)) track, vv (encL (enc2 PyData.int PyData.int)) track.1, vv PyData.int track.2.1, vv (encL PyData.int) track.2.2, none, none, none, none, none, none, none, none] rfl (ts_setLG (QQ := QF (enc3 PyData.int (encL PyData.int) (encL PyData.int))) (eγ := (encO (enc2 PyData.int PyData.int))) (t_lc0 (e := PyData.int) (xs := (rngI 0 (track.2.2.length : Int))) (e' := (encO (enc2 PyData.int PyData.int))) (t_wk (t_cons (t_call (t_cons (t_get rfl) t_nil) f_lenL) t_nil) (f_rng1 h.1)) h.2.1 (fun piece => tg_n) (fun piece hx1 => (tm_p [vv (enc3 (encL (enc2 PyData.int PyData.int)) PyData.int (encL PyData.int)) track, vv (encL (enc2 PyData.int PyData.int)) track.1, vv PyData.int track.2.1, vv (encL PyData.int) track.2.2, none, vv PyData.int piece, none, none, none, none, none, none] rfl (t_seq (t_cons (t_get rfl) (t_cons (t_get rfl) t_nil)) (T_law_window _ _ (h.2.2.1 piece hx1)))))) h.2.2.2 (fun windows_v hb2 =>
  (ts_p [vv (enc3 (encL (enc2 PyData.int PyData.int)) PyData.int (encL PyData.int)) track, vv (encL (enc2 PyData.int PyData.int)) track.1, vv PyData.int track.2.1, vv (encL PyData.int) track.2.2, vv (encL (encO (enc2 PyData.int PyData.int))) windows_v, none, none, none, none, none, none, none] rfl (ts_setOG (QQ := QF (enc3 PyData.int (encL PyData.int) (encL PyData.int))) (eγ := PyData.int) (t_dsp (t_cons t_c t_nil) (ln_r rfl)) hb2 (fun need hb3 =>
  (ts_p [vv (enc3 (encL (enc2 PyData.int PyData.int)) PyData.int (encL PyData.int)) track, vv (encL (enc2 PyData.int PyData.int)) track.1, vv PyData.int track.2.1, vv (encL PyData.int) track.2.2, vv (encL (encO (enc2 PyData.int PyData.int))) windows_v, none, vo PyData.int need, none, none, none, none, none] rfl (ts_forG (QQ := QF (enc3 PyData.int (encL PyData.int) (encL PyData.int))) (e := PyData.int) (xs := (rngI 0 (track.2.1 + 1))) (eτ := (enc3 PyData.int (encL PyData.int) (encL PyData.int))) (F := (fun (need2 : (List Int)) (k : Int) =>
  (bnd ((rngI 0 (track.2.2.length : Int)).foldl (fun (some_ : (List Int)) (piece2 : Int) =>
  (if ((windows_v.getD (piece2).toNat none).isSome && ((decide (((windows_v.getD (piece2).toNat none).getD (0, 0)).1 ≤ k)) && (decide (k ≤ ((windows_v.getD (piece2).toNat none).getD (0, 0)).2)))) = true then (some_ ++ [((need2.getD (((windows_v.getD (piece2).toNat none).getD (0, 0)).1).toNat 0) + (track.2.2.getD (piece2).toNat 0))])
  else some_)) []) fun (some_2 : (List Int)) =>
  (need2 ++ [(minL some_2)])))) (S := (fun (need2 : (List Int)) (k : Int) => LpS (fun (some_ : (List Int)) (piece2 : Int) => ixOk windows_v.length piece2 ∧ ((windows_v.getD (piece2).toNat none).isSome = true → (windows_v.getD (piece2).toNat none).isSome = true) ∧ (((windows_v.getD (piece2).toNat none).isSome && ((decide (((windows_v.getD (piece2).toNat none).getD (0, 0)).1 ≤ k)) && (decide (k ≤ ((windows_v.getD (piece2).toNat none).getD (0, 0)).2)))) = true → (windows_v.getD (piece2).toNat none).isSome = true ∧ ixOk need2.length ((windows_v.getD (piece2).toNat none).getD (0, 0)).1 ∧ ixOk track.2.2.length piece2 ∧ some_.length < sizeLine)) (fun (some_ : (List Int)) (piece2 : Int) =>
  (if ((windows_v.getD (piece2).toNat none).isSome && ((decide (((windows_v.getD (piece2).toNat none).getD (0, 0)).1 ≤ k)) && (decide (k ≤ ((windows_v.getD (piece2).toNat none).getD (0, 0)).2)))) = true then (some_ ++ [((need2.getD (((windows_v.getD (piece2).toNat none).getD (0, 0)).1).toNat 0) + (track.2.2.getD (piece2).toNat 0))])
  else some_)) (rngI 0 (track.2.2.length : Int)) [] ∧ (bnd ((rngI 0 (track.2.2.length : Int)).foldl (fun (some_ : (List Int)) (piece2 : Int) =>
  (if ((windows_v.getD (piece2).toNat none).isSome && ((decide (((windows_v.getD (piece2).toNat none).getD (0, 0)).1 ≤ k)) && (decide (k ≤ ((windows_v.getD (piece2).toNat none).getD (0, 0)).2)))) = true then (some_ ++ [((need2.getD (((windows_v.getD (piece2).toNat none).getD (0, 0)).1).toNat 0) + (track.2.2.getD (piece2).toNat 0))])
  else some_)) []) fun (some_2 : (List Int)) => some_2 ≠ [] ∧ need2.length < sizeLine))) (E := fun (need2 : (List Int)) => [vv (enc3 (encL (enc2 PyData.int PyData.int)) PyData.int (encL PyData.int)) track, vv (encL (enc2 PyData.int PyData.int)) track.1, vv PyData.int track.2.1, vv (encL PyData.int) track.2.2, vv (encL (encO (enc2 PyData.int PyData.int))) windows_v, none, vo PyData.int need2, none, none, none, none, none]) (.is (.is (.is (.is (.is (.any (.is (.any (.any (.is (.is (.is .nil)))))))))))) (t_wk (t_cons (t_2 (t_get rfl) t_c f_add) t_nil) (f_rng1 hb3.1)) hb3.2.1 (fun need2 k => tg_n) (fun need2 k hx5 hb4 =>
  (ts_p [vv (enc3 (encL (enc2 PyData.int PyData.int)) PyData.int (encL PyData.int)) track, vv (encL (enc2 PyData.int PyData.int)) track.1, vv PyData.int track.2.1, vv (encL PyData.int) track.2.2, vv (encL (encO (enc2 PyData.int PyData.int))) windows_v, none, vo PyData.int need2, vv PyData.int k, none, none, none, none] rfl (ts_setO (t_dsp t_nil (ln_r rfl)) (ts_p [vv (enc3 (encL (enc2 PyData.int PyData.int)) PyData.int (encL PyData.int)) track, vv (encL (enc2 PyData.int PyData.int)) track.1, vv PyData.int track.2.1, vv (encL PyData.int) track.2.2, vv (encL (encO (enc2 PyData.int PyData.int))) windows_v, none, vo PyData.int need2, vv PyData.int k, vo PyData.int [], none, none, none] rfl (ts_forG (QQ := fun z => QL _ (enc3 PyData.int (encL PyData.int) (encL PyData.int)) (Stp.nx z)) (e := PyData.int) (xs := (rngI 0 (track.2.2.length : Int))) (eτ := (enc3 PyData.int (encL PyData.int) (encL PyData.int))) (F := (fun (some_ : (List Int)) (piece2 : Int) =>
  (if ((windows_v.getD (piece2).toNat none).isSome && ((decide (((windows_v.getD (piece2).toNat none).getD (0, 0)).1 ≤ k)) && (decide (k ≤ ((windows_v.getD (piece2).toNat none).getD (0, 0)).2)))) = true then (some_ ++ [((need2.getD (((windows_v.getD (piece2).toNat none).getD (0, 0)).1).toNat 0) + (track.2.2.getD (piece2).toNat 0))])
  else some_))) (S := (fun (some_ : (List Int)) (piece2 : Int) => ixOk windows_v.length piece2 ∧ ((windows_v.getD (piece2).toNat none).isSome = true → (windows_v.getD (piece2).toNat none).isSome = true) ∧ (((windows_v.getD (piece2).toNat none).isSome && ((decide (((windows_v.getD (piece2).toNat none).getD (0, 0)).1 ≤ k)) && (decide (k ≤ ((windows_v.getD (piece2).toNat none).getD (0, 0)).2)))) = true → (windows_v.getD (piece2).toNat none).isSome = true ∧ ixOk need2.length ((windows_v.getD (piece2).toNat none).getD (0, 0)).1 ∧ ixOk track.2.2.length piece2 ∧ some_.length < sizeLine))) (E := fun (some_ : (List Int)) => [vv (enc3 (encL (enc2 PyData.int PyData.int)) PyData.int (encL PyData.int)) track, vv (encL (enc2 PyData.int PyData.int)) track.1, vv PyData.int track.2.1, vv (encL PyData.int) track.2.2, vv (encL (encO (enc2 PyData.int PyData.int))) windows_v, none, vo PyData.int need2, vv PyData.int k, vo PyData.int some_, none, none, none]) (.is (.is (.is (.is (.is (.any (.is (.is (.is (.is (.is (.is .nil)))))))))))) (t_wk (t_cons (t_call (t_cons (t_get rfl) t_nil) f_lenL) t_nil) (f_rng1 h.1)) hb4.1 (fun some_ piece2 => tg_n) (fun some_ piece2 hx7 hb6 =>
  (ts_p [vv (enc3 (encL (enc2 PyData.int PyData.int)) PyData.int (encL PyData.int)) track, vv (encL (enc2 PyData.int PyData.int)) track.1, vv PyData.int track.2.1, vv (encL PyData.int) track.2.2, vv (encL (encO (enc2 PyData.int PyData.int))) windows_v, vv PyData.int piece2, vo PyData.int need2, vv PyData.int k, vo PyData.int some_, none, none, none] rfl (ts_end (ts_if (QQ := fun z => QL _ (enc3 PyData.int (encL PyData.int) (encL PyData.int)) (Stp.nx z)) (t_andB (t_B (t_2 (t_2 (t_get rfl) (t_get rfl) (f_idxL (d := none) hb6.1)) t_c (f_isNN (fun _ => rfl)))) fun hc8 => (t_andB (t_B (t_2 (t_2 (t_unO (d := (0, 0)) (t_2 (t_get rfl) (t_get rfl) (f_idxL (d := none) hb6.1)) (hb6.2.1 hc8)) t_c (f_i0 _ _)) (t_get rfl) f_le)) fun hc9 => (t_B (t_2 (t_get rfl) (t_2 (t_unO (d := (0, 0)) (t_2 (t_get rfl) (t_get rfl) (f_idxL (d := none) hb6.1)) (hb6.2.1 hc8)) t_c (f_i1 _ _ _)) f_le)))) (fun hc10 => (ts_app (e := PyData.int) rfl (t_2 (t_ixO rfl (t_2 (t_unO (d := (0, 0)) (t_2 (t_get rfl) (t_get rfl) (f_idxL (d := none) hb6.1)) (hb6.2.2 hc10).1) t_c (f_i0 _ _)) (f_idxL (d := 0) (hb6.2.2 hc10).2.1)) (t_2 (t_get rfl) (t_get rfl) (f_idxL (d := 0) (hb6.2.2 hc10).2.2.1)) f_add) (hb6.2.2 hc10).2.2.2 (ts_p [vv (enc3 (encL (enc2 PyData.int PyData.int)) PyData.int (encL PyData.int)) track, vv (encL (enc2 PyData.int PyData.int)) track.1, vv PyData.int track.2.1, vv (encL PyData.int) track.2.2, vv (encL (encO (enc2 PyData.int PyData.int))) windows_v, vv PyData.int piece2, vo PyData.int need2, vv PyData.int k, vo PyData.int (some_ ++ [((need2.getD (((windows_v.getD (piece2).toNat none).getD (0, 0)).1).toNat 0) + (track.2.2.getD (piece2).toNat 0))]), none, none, none] rfl (ts_finL (.is (.is (.is (.is (.is (.any (.is (.is (.is (.is (.is (.is .nil))))))))))))))))
  (fun hc10 => (ts_nx (ts_p [vv (enc3 (encL (enc2 PyData.int PyData.int)) PyData.int (encL PyData.int)) track, vv (encL (enc2 PyData.int PyData.int)) track.1, vv PyData.int track.2.1, vv (encL PyData.int) track.2.2, vv (encL (encO (enc2 PyData.int PyData.int))) windows_v, vv PyData.int piece2, vo PyData.int need2, vv PyData.int k, vo PyData.int some_, none, none, none] rfl (ts_finL (.is (.is (.is (.is (.is (.any (.is (.is (.is (.is (.is (.is .nil)))))))))))))))))))) hb4.2 (fun some_2 hb11 =>
  (ts_p [vv (enc3 (encL (enc2 PyData.int PyData.int)) PyData.int (encL PyData.int)) track, vv (encL (enc2 PyData.int PyData.int)) track.1, vv PyData.int track.2.1, vv (encL PyData.int) track.2.2, vv (encL (encO (enc2 PyData.int PyData.int))) windows_v, none, vo PyData.int need2, vv PyData.int k, vo PyData.int some_2, none, none, none] rfl (ts_end (ts_app (e := PyData.int) rfl (t_bor (tm_p [vv (enc3 (encL (enc2 PyData.int PyData.int)) PyData.int (encL PyData.int)) track, vv (encL (enc2 PyData.int PyData.int)) track.1, vv PyData.int track.2.1, vv (encL PyData.int) track.2.2, vv (encL (encO (enc2 PyData.int PyData.int))) windows_v, none, vo PyData.int need2, vv PyData.int k, vv (encL PyData.int) some_2, none, none, none] rfl (t_call (t_cons (t_get rfl) t_nil) (f_minL hb11.1))) rfl) hb11.2 (ts_p [vv (enc3 (encL (enc2 PyData.int PyData.int)) PyData.int (encL PyData.int)) track, vv (encL (enc2 PyData.int PyData.int)) track.1, vv PyData.int track.2.1, vv (encL PyData.int) track.2.2, vv (encL (encO (enc2 PyData.int PyData.int))) windows_v, none, vo PyData.int (need2 ++ [(minL some_2)]), vv PyData.int k, vo PyData.int some_2, none, none, none] rfl (ts_finL (.is (.is (.is (.is (.is (.any (.is (.any (.any (.is (.is (.is .nil))))))))))))))))))))))) hb3.2.2 (fun need22 hb12 =>
  (ts_p [vv (enc3 (encL (enc2 PyData.int PyData.int)) PyData.int (encL PyData.int)) track, vv (encL (enc2 PyData.int PyData.int)) track.1, vv PyData.int track.2.1, vv (encL PyData.int) track.2.2, vv (encL (encO (enc2 PyData.int PyData.int))) windows_v, none, vo PyData.int need22, none, none, none, none, none] rfl (ts_setO (t_dsp t_nil (ln_r rfl)) (ts_p [vv (enc3 (encL (enc2 PyData.int PyData.int)) PyData.int (encL PyData.int)) track, vv (encL (enc2 PyData.int PyData.int)) track.1, vv PyData.int track.2.1, vv (encL PyData.int) track.2.2, vv (encL (encO (enc2 PyData.int PyData.int))) windows_v, none, vo PyData.int need22, none, none, vo PyData.int [], none, none] rfl (ts_setG (QQ := QF (enc3 PyData.int (encL PyData.int) (encL PyData.int))) (eγ := PyData.int) (t_2 (t_get rfl) t_c f_add) hb12 (fun k2 hb13 =>
  (ts_p [vv (enc3 (encL (enc2 PyData.int PyData.int)) PyData.int (encL PyData.int)) track, vv (encL (enc2 PyData.int PyData.int)) track.1, vv PyData.int track.2.1, vv (encL PyData.int) track.2.2, vv (encL (encO (enc2 PyData.int PyData.int))) windows_v, none, vo PyData.int need22, vv PyData.int k2, none, vo PyData.int [], none, none] rfl (ts_forG (QQ := QF (enc3 PyData.int (encL PyData.int) (encL PyData.int))) (e := PyData.int) (xs := (rngI 0 (track.2.1 + 1))) (eτ := (enc3 PyData.int (encL PyData.int) (encL PyData.int))) (F := (fun (s : Int × (List Int)) (step : Int) =>
  (bnd ((rngI 0 (track.2.2.length : Int)).foldl (fun (chosen : (Option Int)) (piece3 : Int) =>
  (if ((decide (0 < s.1)) && (chosen.isNone && ((windows_v.getD (piece3).toNat none).isSome && ((decide (((windows_v.getD (piece3).toNat none).getD (0, 0)).1 < s.1)) && (decide ((s.1 - 1) ≤ ((windows_v.getD (piece3).toNat none).getD (0, 0)).2)))))) = true then (if (decide (((need22.getD (((windows_v.getD (piece3).toNat none).getD (0, 0)).1).toNat 0) + (track.2.2.getD (piece3).toNat 0)) = (need22.getD (s.1).toNat 0))) = true then (some piece3)
  else chosen)
  else chosen)) none) fun (chosen2 : (Option Int)) =>
  (if chosen2.isSome = true then (bnd ((windows_v.getD ((chosen2.getD 0)).toNat none).getD (0, 0)).1 fun (k3 : Int) =>
  (k3, (s.2 ++ [(chosen2.getD 0)])))
  else (s.1, s.2))))) (S := (fun (s : Int × (List Int)) (step : Int) => LpS (fun (chosen : (Option Int)) (piece3 : Int) => ((decide (0 < s.1)) = true → (chosen.isNone = true → ixOk windows_v.length piece3 ∧ ((windows_v.getD (piece3).toNat none).isSome = true → (windows_v.getD (piece3).toNat none).isSome = true))) ∧ (((decide (0 < s.1)) && (chosen.isNone && ((windows_v.getD (piece3).toNat none).isSome && ((decide (((windows_v.getD (piece3).toNat none).getD (0, 0)).1 < s.1)) && (decide ((s.1 - 1) ≤ ((windows_v.getD (piece3).toNat none).getD (0, 0)).2)))))) = true → ixOk windows_v.length piece3 ∧ (windows_v.getD (piece3).toNat none).isSome = true ∧ ixOk need22.length ((windows_v.getD (piece3).toNat none).getD (0, 0)).1 ∧ ixOk track.2.2.length piece3 ∧ ixOk need22.length s.1)) (fun (chosen : (Option Int)) (piece3 : Int) =>
  (if ((decide (0 < s.1)) && (chosen.isNone && ((windows_v.getD (piece3).toNat none).isSome && ((decide (((windows_v.getD (piece3).toNat none).getD (0, 0)).1 < s.1)) && (decide ((s.1 - 1) ≤ ((windows_v.getD (piece3).toNat none).getD (0, 0)).2)))))) = true then (if (decide (((need22.getD (((windows_v.getD (piece3).toNat none).getD (0, 0)).1).toNat 0) + (track.2.2.getD (piece3).toNat 0)) = (need22.getD (s.1).toNat 0))) = true then (some piece3)
  else chosen)
  else chosen)) (rngI 0 (track.2.2.length : Int)) none ∧ (bnd ((rngI 0 (track.2.2.length : Int)).foldl (fun (chosen : (Option Int)) (piece3 : Int) =>
  (if ((decide (0 < s.1)) && (chosen.isNone && ((windows_v.getD (piece3).toNat none).isSome && ((decide (((windows_v.getD (piece3).toNat none).getD (0, 0)).1 < s.1)) && (decide ((s.1 - 1) ≤ ((windows_v.getD (piece3).toNat none).getD (0, 0)).2)))))) = true then (if (decide (((need22.getD (((windows_v.getD (piece3).toNat none).getD (0, 0)).1).toNat 0) + (track.2.2.getD (piece3).toNat 0)) = (need22.getD (s.1).toNat 0))) = true then (some piece3)
  else chosen)
  else chosen)) none) fun (chosen2 : (Option Int)) => (chosen2.isSome = true → chosen2.isSome = true ∧ s.2.length < sizeLine ∧ ixOk windows_v.length (chosen2.getD 0) ∧ (windows_v.getD ((chosen2.getD 0)).toNat none).isSome = true)))) (E := fun (s : Int × (List Int)) => [vv (enc3 (encL (enc2 PyData.int PyData.int)) PyData.int (encL PyData.int)) track, vv (encL (enc2 PyData.int PyData.int)) track.1, vv PyData.int track.2.1, vv (encL PyData.int) track.2.2, vv (encL (encO (enc2 PyData.int PyData.int))) windows_v, none, vo PyData.int need22, vv PyData.int s.1, none, vo PyData.int s.2, none, none]) (.is (.is (.is (.is (.is (.any (.is (.is (.is (.is (.any (.any .nil)))))))))))) (t_wk (t_cons (t_2 (t_get rfl) t_c f_add) t_nil) (f_rng1 hb3.1)) hb13.1 (fun s step => tg_n) (fun s step hx15 hb14 =>
  (ts_p [vv (enc3 (encL (enc2 PyData.int PyData.int)) PyData.int (encL PyData.int)) track, vv (encL (enc2 PyData.int PyData.int)) track.1, vv PyData.int track.2.1, vv (encL PyData.int) track.2.2, vv (encL (encO (enc2 PyData.int PyData.int))) windows_v, none, vo PyData.int need22, vv PyData.int s.1, none, vo PyData.int s.2, vv PyData.int step, none] rfl (ts_set t_c (ts_p [vv (enc3 (encL (enc2 PyData.int PyData.int)) PyData.int (encL PyData.int)) track, vv (encL (enc2 PyData.int PyData.int)) track.1, vv PyData.int track.2.1, vv (encL PyData.int) track.2.2, vv (encL (encO (enc2 PyData.int PyData.int))) windows_v, none, vo PyData.int need22, vv PyData.int s.1, none, vo PyData.int s.2, vv PyData.int step, vv eN ()] rfl (ts_forG (QQ := fun z => QL _ (enc3 PyData.int (encL PyData.int) (encL PyData.int)) (Stp.nx z)) (e := PyData.int) (xs := (rngI 0 (track.2.2.length : Int))) (eτ := (enc3 PyData.int (encL PyData.int) (encL PyData.int))) (F := (fun (chosen : (Option Int)) (piece3 : Int) =>
  (if ((decide (0 < s.1)) && (chosen.isNone && ((windows_v.getD (piece3).toNat none).isSome && ((decide (((windows_v.getD (piece3).toNat none).getD (0, 0)).1 < s.1)) && (decide ((s.1 - 1) ≤ ((windows_v.getD (piece3).toNat none).getD (0, 0)).2)))))) = true then (if (decide (((need22.getD (((windows_v.getD (piece3).toNat none).getD (0, 0)).1).toNat 0) + (track.2.2.getD (piece3).toNat 0)) = (need22.getD (s.1).toNat 0))) = true then (some piece3)
  else chosen)
  else chosen))) (S := (fun (chosen : (Option Int)) (piece3 : Int) => ((decide (0 < s.1)) = true → (chosen.isNone = true → ixOk windows_v.length piece3 ∧ ((windows_v.getD (piece3).toNat none).isSome = true → (windows_v.getD (piece3).toNat none).isSome = true))) ∧ (((decide (0 < s.1)) && (chosen.isNone && ((windows_v.getD (piece3).toNat none).isSome && ((decide (((windows_v.getD (piece3).toNat none).getD (0, 0)).1 < s.1)) && (decide ((s.1 - 1) ≤ ((windows_v.getD (piece3).toNat none).getD (0, 0)).2)))))) = true → ixOk windows_v.length piece3 ∧ (windows_v.getD (piece3).toNat none).isSome = true ∧ ixOk need22.length ((windows_v.getD (piece3).toNat none).getD (0, 0)).1 ∧ ixOk track.2.2.length piece3 ∧ ixOk need22.length s.1))) (E := fun (chosen : (Option Int)) => [vv (enc3 (encL (enc2 PyData.int PyData.int)) PyData.int (encL PyData.int)) track, vv (encL (enc2 PyData.int PyData.int)) track.1, vv PyData.int track.2.1, vv (encL PyData.int) track.2.2, vv (encL (encO (enc2 PyData.int PyData.int))) windows_v, none, vo PyData.int need22, vv PyData.int s.1, none, vo PyData.int s.2, vv PyData.int step, vv (encO PyData.int) chosen]) (.is (.is (.is (.is (.is (.any (.is (.is (.is (.is (.is (.is .nil)))))))))))) (t_wk (t_cons (t_call (t_cons (t_get rfl) t_nil) f_lenL) t_nil) (f_rng1 h.1)) hb14.1 (fun chosen piece3 => tg_n) (fun chosen piece3 hx17 hb16 =>
  (ts_p [vv (enc3 (encL (enc2 PyData.int PyData.int)) PyData.int (encL PyData.int)) track, vv (encL (enc2 PyData.int PyData.int)) track.1, vv PyData.int track.2.1, vv (encL PyData.int) track.2.2, vv (encL (encO (enc2 PyData.int PyData.int))) windows_v, vv PyData.int piece3, vo PyData.int need22, vv PyData.int s.1, none, vo PyData.int s.2, vv PyData.int step, vv (encO PyData.int) chosen] rfl (ts_end (ts_if (QQ := fun z => QL _ (enc3 PyData.int (encL PyData.int) (encL PyData.int)) (Stp.nx z)) (t_andB (t_B (t_2 (t_get rfl) t_c f_gt)) fun hc18 => (t_andB (t_B (t_2 (t_get rfl) t_c (f_isN (fun _ => rfl)))) fun hc19 => (t_andB (t_B (t_2 (t_2 (t_get rfl) (t_get rfl) (f_idxL (d := none) ((hb16.1 hc18) hc19).1)) t_c (f_isNN (fun _ => rfl)))) fun hc20 => (t_andB (t_B (t_2 (t_2 (t_unO (d := (0, 0)) (t_2 (t_get rfl) (t_get rfl) (f_idxL (d := none) ((hb16.1 hc18) hc19).1)) (((hb16.1 hc18) hc19).2 hc20)) t_c (f_i0 _ _)) (t_get rfl) f_lt)) fun hc21 => (t_B (t_2 (t_2 (t_get rfl) t_c f_sub) (t_2 (t_unO (d := (0, 0)) (t_2 (t_get rfl) (t_get rfl) (f_idxL (d := none) ((hb16.1 hc18) hc19).1)) (((hb16.1 hc18) hc19).2 hc20)) t_c (f_i1 _ _ _)) f_le)))))) (fun hc22 => (ts_if (QQ := fun z => QL _ (enc3 PyData.int (encL PyData.int) (encL PyData.int)) (Stp.nx z)) (t_B (t_2 (t_2 (t_ixO rfl (t_2 (t_unO (d := (0, 0)) (t_2 (t_get rfl) (t_get rfl) (f_idxL (d := none) (hb16.2 hc22).1)) (hb16.2 hc22).2.1) t_c (f_i0 _ _)) (f_idxL (d := 0) (hb16.2 hc22).2.2.1)) (t_2 (t_get rfl) (t_get rfl) (f_idxL (d := 0) (hb16.2 hc22).2.2.2.1)) f_add) (t_ixO rfl (t_get rfl) (f_idxL (d := 0) (hb16.2 hc22).2.2.2.2)) (f_eq eqe_I))) (fun hc23 => (ts_set (t_get rfl) (ts_p [vv (enc3 (encL (enc2 PyData.int PyData.int)) PyData.int (encL PyData.int)) track, vv (encL (enc2 PyData.int PyData.int)) track.1, vv PyData.int track.2.1, vv (encL PyData.int) track.2.2, vv (encL (encO (enc2 PyData.int PyData.int))) windows_v, vv PyData.int piece3, vo PyData.int need22, vv PyData.int s.1, none, vo PyData.int s.2, vv PyData.int step, vv PyData.int piece3] rfl (ts_finL (.is (.is (.is (.is (.is (.any (.is (.is (.is (.is (.is (.is .nil))))))))))))))))
  (fun hc23 => (ts_nx (ts_p [vv (enc3 (encL (enc2 PyData.int PyData.int)) PyData.int (encL PyData.int)) track, vv (encL (enc2 PyData.int PyData.int)) track.1, vv PyData.int track.2.1, vv (encL PyData.int) track.2.2, vv (encL (encO (enc2 PyData.int PyData.int))) windows_v, vv PyData.int piece3, vo PyData.int need22, vv PyData.int s.1, none, vo PyData.int s.2, vv PyData.int step, vv (encO PyData.int) chosen] rfl (ts_finL (.is (.is (.is (.is (.is (.any (.is (.is (.is (.is (.is (.is .nil))))))))))))))))))
  (fun hc22 => (ts_nx (ts_p [vv (enc3 (encL (enc2 PyData.int PyData.int)) PyData.int (encL PyData.int)) track, vv (encL (enc2 PyData.int PyData.int)) track.1, vv PyData.int track.2.1, vv (encL PyData.int) track.2.2, vv (encL (encO (enc2 PyData.int PyData.int))) windows_v, vv PyData.int piece3, vo PyData.int need22, vv PyData.int s.1, none, vo PyData.int s.2, vv PyData.int step, vv (encO PyData.int) chosen] rfl (ts_finL (.is (.is (.is (.is (.is (.any (.is (.is (.is (.is (.is (.is .nil)))))))))))))))))))) hb14.2 (fun chosen2 hb24 =>
  (ts_p [vv (enc3 (encL (enc2 PyData.int PyData.int)) PyData.int (encL PyData.int)) track, vv (encL (enc2 PyData.int PyData.int)) track.1, vv PyData.int track.2.1, vv (encL PyData.int) track.2.2, vv (encL (encO (enc2 PyData.int PyData.int))) windows_v, none, vo PyData.int need22, vv PyData.int s.1, none, vo PyData.int s.2, vv PyData.int step, vv (encO PyData.int) chosen2] rfl (ts_end (ts_if (QQ := fun z => QL _ (enc3 PyData.int (encL PyData.int) (encL PyData.int)) (Stp.nx z)) (t_B (t_2 (t_get rfl) t_c (f_isNN (fun _ => rfl)))) (fun hc25 => (ts_as (ts_app (e := PyData.int) rfl (t_unO (d := 0) (t_get rfl) (hb24 hc25).1) (hb24 hc25).2.1 (ts_p [vv (enc3 (encL (enc2 PyData.int PyData.int)) PyData.int (encL PyData.int)) track, vv (encL (enc2 PyData.int PyData.int)) track.1, vv PyData.int track.2.1, vv (encL PyData.int) track.2.2, vv (encL (encO (enc2 PyData.int PyData.int))) windows_v, none, vo PyData.int need22, vv PyData.int s.1, none, vo PyData.int (s.2 ++ [(chosen2.getD 0)]), vv PyData.int step, vv (encO PyData.int) chosen2] rfl (ts_setG (QQ := fun z => QL _ (enc3 PyData.int (encL PyData.int) (encL PyData.int)) (Stp.nx z)) (eγ := PyData.int) (t_2 (t_unO (d := (0, 0)) (t_2 (t_get rfl) (t_unO (d := 0) (t_get rfl) (hb24 hc25).1) (f_idxL (d := none) (hb24 hc25).2.2.1)) (hb24 hc25).2.2.2) t_c (f_i0 _ _)) (show bnd _ (fun _ => True) from trivial) (fun k3 hb26 =>
  (ts_p [vv (enc3 (encL (enc2 PyData.int PyData.int)) PyData.int (encL PyData.int)) track, vv (encL (enc2 PyData.int PyData.int)) track.1, vv PyData.int track.2.1, vv (encL PyData.int) track.2.2, vv (encL (encO (enc2 PyData.int PyData.int))) windows_v, none, vo PyData.int need22, vv PyData.int k3, none, vo PyData.int (s.2 ++ [(chosen2.getD 0)]), vv PyData.int step, vv (encO PyData.int) chosen2] rfl (ts_finL (.is (.is (.is (.is (.is (.any (.is (.is (.is (.is (.any (.any .nil))))))))))))))))))))
  (fun hc25 => (ts_nx (ts_p [vv (enc3 (encL (enc2 PyData.int PyData.int)) PyData.int (encL PyData.int)) track, vv (encL (enc2 PyData.int PyData.int)) track.1, vv PyData.int track.2.1, vv (encL PyData.int) track.2.2, vv (encL (encO (enc2 PyData.int PyData.int))) windows_v, none, vo PyData.int need22, vv PyData.int s.1, none, vo PyData.int s.2, vv PyData.int step, vv (encO PyData.int) chosen2] rfl (ts_finL (.is (.is (.is (.is (.is (.any (.is (.is (.is (.is (.any (.any .nil))))))))))))))))))))))))) hb13.2 (fun s2 hb27 =>
  (ts_p [vv (enc3 (encL (enc2 PyData.int PyData.int)) PyData.int (encL PyData.int)) track, vv (encL (enc2 PyData.int PyData.int)) track.1, vv PyData.int track.2.1, vv (encL PyData.int) track.2.2, vv (encL (encO (enc2 PyData.int PyData.int))) windows_v, none, vo PyData.int need22, vv PyData.int s2.1, none, vo PyData.int s2.2, none, none] rfl (ts_end (ts_fz (ts_p [vv (enc3 (encL (enc2 PyData.int PyData.int)) PyData.int (encL PyData.int)) track, vv (encL (enc2 PyData.int PyData.int)) track.1, vv PyData.int track.2.1, vv (encL PyData.int) track.2.2, vv (encL (encO (enc2 PyData.int PyData.int))) windows_v, none, vo PyData.int need22, vv PyData.int s2.1, none, vv (encL PyData.int) s2.2, none, none] rfl (ts_retF (t_as (enc3 PyData.int (encL PyData.int) (encL PyData.int)) ((need22.getD ((track.2.1 + 1)).toNat 0), ((rngI 0 (track.2.1 + 1)).map fun k4 => ((need22.getD ((k4 + 1)).toNat 0) - (need22.getD (k4).toNat 0))), (s2.2.mergeSort leI)) (t_seq (t_cons (t_ixO rfl (t_2 (t_get rfl) t_c f_add) (f_idxL (d := 0) hb27.1)) (t_cons (t_L (t_lc0 (e := PyData.int) (xs := (rngI 0 (track.2.1 + 1))) (e' := PyData.int) (t_wk (t_cons (t_2 (t_get rfl) t_c f_add) t_nil) (f_rng1 hb3.1)) hb27.2.1 (fun k4 => tg_n) (fun k4 hx28 => (tm_p [vv (enc3 (encL (enc2 PyData.int PyData.int)) PyData.int (encL PyData.int)) track, vv (encL (enc2 PyData.int PyData.int)) track.1, vv PyData.int track.2.1, vv (encL PyData.int) track.2.2, vv (encL (encO (enc2 PyData.int PyData.int))) windows_v, none, vo PyData.int need22, vv PyData.int k4, none, vv (encL PyData.int) s2.2, none, none] rfl (t_2 (t_ixO rfl (t_2 (t_get rfl) t_c f_add) (f_idxL (d := 0) (hb27.2.2 k4 hx28).1)) (t_ixO rfl (t_get rfl) (f_idxL (d := 0) (hb27.2.2 k4 hx28).2)) f_sub))))) (t_cons (t_call (t_cons (t_get rfl) t_nil) f_sortI) t_nil))) (mTup_ok rfl))))))))))))))))))))))))))))
noncomputable def F_law_plan_holds (track : ((List (Int × Int)) × Int × (List Int))) (plan : (List Int)) : Bool :=
  (if ((!decide ((plan.length : Int) = (track.2.1 + 1))) || (decide (0 < (((plan.filter fun years => (decide (years < 0))).map fun years => years).length : Int)))) = true then false
  else (Lp.el (loopR (fun (s : Unit) (piece : Int) => ((bnd ((rngI 0 (track.2.1 + 1)).foldl (fun (total : Int) (offset : Int) =>
  (bnd ((track.1.filter fun place_width => ((decide ((place_width.1 + offset) ≤ piece)) && (decide (piece < ((place_width.1 + offset) + place_width.2))))).map fun place_width => place_width.1) fun (lies : (List Int)) =>
  (bnd (total + ((plan.getD (offset).toNat 0) * (if (decide (0 < (lies.length : Int))) = true then 1 else 0))) fun (total2 : Int) =>
  total2))) 0) fun (total3 : Int) =>
  (if (decide ((track.2.2.getD (piece).toNat 0) < total3)) = true then Stp.rt false
  else Stp.nx ())) : Stp (Unit) Bool)) (rngI 0 (track.2.2.length : Int)) ()) (fun v => v) fun (s2 : Unit) =>
  true))
def S_law_plan_holds (track : ((List (Int × Int)) × Int × (List Int))) (plan : (List Int)) : Prop :=
  ((!decide ((plan.length : Int) = (track.2.1 + 1))) = false → plan.length ≤ sizeLine) ∧ (((!decide ((plan.length : Int) = (track.2.1 + 1))) || (decide (0 < (((plan.filter fun years => (decide (years < 0))).map fun years => years).length : Int)))) = false → r62 (track.2.2.length : Int) ∧ LpR (fun (s : Unit) (piece : Int) => r62 (track.2.1 + 1) ∧ LpS (fun (total : Int) (offset : Int) => track.1.length ≤ sizeLine ∧ (bnd ((track.1.filter fun place_width => ((decide ((place_width.1 + offset) ≤ piece)) && (decide (piece < ((place_width.1 + offset) + place_width.2))))).map fun place_width => place_width.1) fun (lies : (List Int)) => ixOk plan.length offset ∧ mulOk (plan.getD (offset).toNat 0) (if (decide (0 < (lies.length : Int))) = true then 1 else 0))) (fun (total : Int) (offset : Int) =>
  (bnd ((track.1.filter fun place_width => ((decide ((place_width.1 + offset) ≤ piece)) && (decide (piece < ((place_width.1 + offset) + place_width.2))))).map fun place_width => place_width.1) fun (lies : (List Int)) =>
  (bnd (total + ((plan.getD (offset).toNat 0) * (if (decide (0 < (lies.length : Int))) = true then 1 else 0))) fun (total2 : Int) =>
  total2))) (rngI 0 (track.2.1 + 1)) 0 ∧ (bnd ((rngI 0 (track.2.1 + 1)).foldl (fun (total : Int) (offset : Int) =>
  (bnd ((track.1.filter fun place_width => ((decide ((place_width.1 + offset) ≤ piece)) && (decide (piece < ((place_width.1 + offset) + place_width.2))))).map fun place_width => place_width.1) fun (lies : (List Int)) =>
  (bnd (total + ((plan.getD (offset).toNat 0) * (if (decide (0 < (lies.length : Int))) = true then 1 else 0))) fun (total2 : Int) =>
  total2))) 0) fun (total3 : Int) => ixOk track.2.2.length piece)) (fun (s : Unit) (piece : Int) => ((bnd ((rngI 0 (track.2.1 + 1)).foldl (fun (total : Int) (offset : Int) =>
  (bnd ((track.1.filter fun place_width => ((decide ((place_width.1 + offset) ≤ piece)) && (decide (piece < ((place_width.1 + offset) + place_width.2))))).map fun place_width => place_width.1) fun (lies : (List Int)) =>
  (bnd (total + ((plan.getD (offset).toNat 0) * (if (decide (0 < (lies.length : Int))) = true then 1 else 0))) fun (total2 : Int) =>
  total2))) 0) fun (total3 : Int) =>
  (if (decide ((track.2.2.getD (piece).toNat 0) < total3)) = true then Stp.rt false
  else Stp.nx ())) : Stp (Unit) Bool)) (rngI 0 (track.2.2.length : Int)) ())
theorem T_law_plan_holds (track : ((List (Int × Int)) × Int × (List Int))) (plan : (List Int)) (h : S_law_plan_holds track plan) : m_law_plan_holds [(enc3 (encL (enc2 PyData.int PyData.int)) PyData.int (encL PyData.int)) track, (encL PyData.int) plan] = .ok (PyData.bool (F_law_plan_holds track plan)) :=
  t_fn (b := b_law_plan_holds) (eτ := PyData.bool) rfl
  ((ts_p [vv (enc3 (encL (enc2 PyData.int PyData.int)) PyData.int (encL PyData.int)) track, vv (encL PyData.int) plan, none, none, none, none, none, none, none, none, none, none] rfl (ts_asg (t_get rfl) (tg_t (tg_c tg_n (tg_c tg_n (tg_c tg_n tg_e))) rfl) (ts_p [vv (enc3 (encL (enc2 PyData.int PyData.int)) PyData.int (encL PyData.int)) track, vv (encL PyData.int) plan, vv (encL (enc2 PyData.int PyData.int)) track.1, vv PyData.int track.2.1, vv (encL PyData.int) track.2.2, none, none, none, none, none, none, none] rfl (ts_if (QQ := QF PyData.bool) (t_orB (t_B (t_2 (t_call (t_cons (t_get rfl) t_nil) f_lenL) (t_2 (t_get rfl) t_c f_add) (f_ne eqe_I))) fun hc1 => (t_B (t_2 (t_call (t_cons (t_L (t_lc (e := PyData.int) (xs := plan) (e' := PyData.int) (t_items (t_get rfl) f_items) (h.1 hc1) (fun years => tg_n) (fun years hx2 => (tm_p [vv (enc3 (encL (enc2 PyData.int PyData.int)) PyData.int (encL PyData.int)) track, vv (encL PyData.int) plan, vv (encL (enc2 PyData.int PyData.int)) track.1, vv PyData.int track.2.1, vv (encL PyData.int) track.2.2, vv PyData.int years, none, none, none, none, none, none] rfl (t_B (t_2 (t_get rfl) t_c f_lt)))) (fun years hx2 hc3 => (tm_p [vv (enc3 (encL (enc2 PyData.int PyData.int)) PyData.int (encL PyData.int)) track, vv (encL PyData.int) plan, vv (encL (enc2 PyData.int PyData.int)) track.1, vv PyData.int track.2.1, vv (encL PyData.int) track.2.2, vv PyData.int years, none, none, none, none, none, none] rfl (t_get rfl))))) t_nil) f_lenL) t_c f_gt))) (fun hc4 => (ts_retF t_c))
  (fun hc4 => (ts_nx (ts_p [vv (enc3 (encL (enc2 PyData.int PyData.int)) PyData.int (encL PyData.int)) track, vv (encL PyData.int) plan, vv (encL (enc2 PyData.int PyData.int)) track.1, vv PyData.int track.2.1, vv (encL PyData.int) track.2.2, none, none, none, none, none, none, none] rfl (ts_forRU (QQ := QF PyData.bool) (e := PyData.int) (xs := (rngI 0 (track.2.2.length : Int))) (eτ := PyData.bool) (F := (fun (s : Unit) (piece : Int) => ((bnd ((rngI 0 (track.2.1 + 1)).foldl (fun (total : Int) (offset : Int) =>
  (bnd ((track.1.filter fun place_width => ((decide ((place_width.1 + offset) ≤ piece)) && (decide (piece < ((place_width.1 + offset) + place_width.2))))).map fun place_width => place_width.1) fun (lies : (List Int)) =>
  (bnd (total + ((plan.getD (offset).toNat 0) * (if (decide (0 < (lies.length : Int))) = true then 1 else 0))) fun (total2 : Int) =>
  total2))) 0) fun (total3 : Int) =>
  (if (decide ((track.2.2.getD (piece).toNat 0) < total3)) = true then Stp.rt false
  else Stp.nx ())) : Stp (Unit) Bool))) (S := (fun (s : Unit) (piece : Int) => r62 (track.2.1 + 1) ∧ LpS (fun (total : Int) (offset : Int) => track.1.length ≤ sizeLine ∧ (bnd ((track.1.filter fun place_width => ((decide ((place_width.1 + offset) ≤ piece)) && (decide (piece < ((place_width.1 + offset) + place_width.2))))).map fun place_width => place_width.1) fun (lies : (List Int)) => ixOk plan.length offset ∧ mulOk (plan.getD (offset).toNat 0) (if (decide (0 < (lies.length : Int))) = true then 1 else 0))) (fun (total : Int) (offset : Int) =>
  (bnd ((track.1.filter fun place_width => ((decide ((place_width.1 + offset) ≤ piece)) && (decide (piece < ((place_width.1 + offset) + place_width.2))))).map fun place_width => place_width.1) fun (lies : (List Int)) =>
  (bnd (total + ((plan.getD (offset).toNat 0) * (if (decide (0 < (lies.length : Int))) = true then 1 else 0))) fun (total2 : Int) =>
  total2))) (rngI 0 (track.2.1 + 1)) 0 ∧ (bnd ((rngI 0 (track.2.1 + 1)).foldl (fun (total : Int) (offset : Int) =>
  (bnd ((track.1.filter fun place_width => ((decide ((place_width.1 + offset) ≤ piece)) && (decide (piece < ((place_width.1 + offset) + place_width.2))))).map fun place_width => place_width.1) fun (lies : (List Int)) =>
  (bnd (total + ((plan.getD (offset).toNat 0) * (if (decide (0 < (lies.length : Int))) = true then 1 else 0))) fun (total2 : Int) =>
  total2))) 0) fun (total3 : Int) => ixOk track.2.2.length piece))) (E := fun (s : Unit) => [vv (enc3 (encL (enc2 PyData.int PyData.int)) PyData.int (encL PyData.int)) track, vv (encL PyData.int) plan, vv (encL (enc2 PyData.int PyData.int)) track.1, vv PyData.int track.2.1, vv (encL PyData.int) track.2.2, none, none, none, none, none, none, none]) (K := fun v => v) (fun _ _ => kF) (.is (.is (.is (.is (.is (.is (.any (.any (.any (.any (.is (.is .nil)))))))))))) (t_wk (t_cons (t_call (t_cons (t_get rfl) t_nil) f_lenL) t_nil) (f_rng1 (h.2 hc4).1)) (h.2 hc4).2 (fun s piece => tg_n) (fun s piece hx6 hb5 =>
  (ts_p [vv (enc3 (encL (enc2 PyData.int PyData.int)) PyData.int (encL PyData.int)) track, vv (encL PyData.int) plan, vv (encL (enc2 PyData.int PyData.int)) track.1, vv PyData.int track.2.1, vv (encL PyData.int) track.2.2, none, vv PyData.int piece, none, none, none, none, none] rfl (ts_set t_c (ts_p [vv (enc3 (encL (enc2 PyData.int PyData.int)) PyData.int (encL PyData.int)) track, vv (encL PyData.int) plan, vv (encL (enc2 PyData.int PyData.int)) track.1, vv PyData.int track.2.1, vv (encL PyData.int) track.2.2, none, vv PyData.int piece, vv PyData.int 0, none, none, none, none] rfl (ts_forG (QQ := QL _ PyData.bool) (e := PyData.int) (xs := (rngI 0 (track.2.1 + 1))) (eτ := PyData.bool) (F := (fun (total : Int) (offset : Int) =>
  (bnd ((track.1.filter fun place_width => ((decide ((place_width.1 + offset) ≤ piece)) && (decide (piece < ((place_width.1 + offset) + place_width.2))))).map fun place_width => place_width.1) fun (lies : (List Int)) =>
  (bnd (total + ((plan.getD (offset).toNat 0) * (if (decide (0 < (lies.length : Int))) = true then 1 else 0))) fun (total2 : Int) =>
  total2)))) (S := (fun (total : Int) (offset : Int) => track.1.length ≤ sizeLine ∧ (bnd ((track.1.filter fun place_width => ((decide ((place_width.1 + offset) ≤ piece)) && (decide (piece < ((place_width.1 + offset) + place_width.2))))).map fun place_width => place_width.1) fun (lies : (List Int)) => ixOk plan.length offset ∧ mulOk (plan.getD (offset).toNat 0) (if (decide (0 < (lies.length : Int))) = true then 1 else 0)))) (E := fun (total : Int) => [vv (enc3 (encL (enc2 PyData.int PyData.int)) PyData.int (encL PyData.int)) track, vv (encL PyData.int) plan, vv (encL (enc2 PyData.int PyData.int)) track.1, vv PyData.int track.2.1, vv (encL PyData.int) track.2.2, none, vv PyData.int piece, vv PyData.int total, none, none, none, none]) (.is (.is (.is (.is (.is (.is (.is (.is (.any (.any (.is (.is .nil)))))))))))) (t_wk (t_cons (t_2 (t_get rfl) t_c f_add) t_nil) (f_rng1 hb5.1)) hb5.2.1 (fun total offset => tg_n) (fun total offset hx8 hb7 =>
  (ts_p [vv (enc3 (encL (enc2 PyData.int PyData.int)) PyData.int (encL PyData.int)) track, vv (encL PyData.int) plan, vv (encL (enc2 PyData.int PyData.int)) track.1, vv PyData.int track.2.1, vv (encL PyData.int) track.2.2, none, vv PyData.int piece, vv PyData.int total, vv PyData.int offset, none, none, none] rfl (ts_setLG (QQ := fun z => QL _ PyData.bool (Stp.nx z)) (eγ := PyData.int) (t_lc (e := (enc2 PyData.int PyData.int)) (xs := track.1) (e' := PyData.int) (t_items (t_get rfl) f_items) hb7.1 (fun place_width => (tg_t (tg_c tg_n (tg_c tg_n tg_e)) rfl)) (fun place_width hx9 => (tm_p [vv (enc3 (encL (enc2 PyData.int PyData.int)) PyData.int (encL PyData.int)) track, vv (encL PyData.int) plan, vv (encL (enc2 PyData.int PyData.int)) track.1, vv PyData.int track.2.1, vv (encL PyData.int) track.2.2, none, vv PyData.int piece, vv PyData.int total, vv PyData.int offset, none, vv PyData.int place_width.1, vv PyData.int place_width.2] rfl (t_andB (t_B (t_2 (t_2 (t_get rfl) (t_get rfl) f_add) (t_get rfl) f_le)) fun hc10 => (t_B (t_2 (t_get rfl) (t_2 (t_2 (t_get rfl) (t_get rfl) f_add) (t_get rfl) f_add) f_lt))))) (fun place_width hx9 hc11 => (tm_p [vv (enc3 (encL (enc2 PyData.int PyData.int)) PyData.int (encL PyData.int)) track, vv (encL PyData.int) plan, vv (encL (enc2 PyData.int PyData.int)) track.1, vv PyData.int track.2.1, vv (encL PyData.int) track.2.2, none, vv PyData.int piece, vv PyData.int total, vv PyData.int offset, none, vv PyData.int place_width.1, vv PyData.int place_width.2] rfl (t_get rfl)))) hb7.2 (fun lies hb12 =>
  (ts_p [vv (enc3 (encL (enc2 PyData.int PyData.int)) PyData.int (encL PyData.int)) track, vv (encL PyData.int) plan, vv (encL (enc2 PyData.int PyData.int)) track.1, vv PyData.int track.2.1, vv (encL PyData.int) track.2.2, none, vv PyData.int piece, vv PyData.int total, vv PyData.int offset, vv (encL PyData.int) lies, none, none] rfl (ts_end (ts_setG (QQ := fun z => QL _ PyData.bool (Stp.nx z)) (eγ := PyData.int) (t_2 (t_get rfl) (t_2 (t_2 (t_get rfl) (t_get rfl) (f_idxL (d := 0) hb12.1)) (t_call (t_cons (t_2 (t_call (t_cons (t_get rfl) t_nil) f_lenL) t_c f_gt) t_nil) f_intB) (f_mul hb12.2)) f_add) (show bnd _ (fun _ => True) from trivial) (fun total2 hb13 =>
  (ts_p [vv (enc3 (encL (enc2 PyData.int PyData.int)) PyData.int (encL PyData.int)) track, vv (encL PyData.int) plan, vv (encL (enc2 PyData.int PyData.int)) track.1, vv PyData.int track.2.1, vv (encL PyData.int) track.2.2, none, vv PyData.int piece, vv PyData.int total2, vv PyData.int offset, vv (encL PyData.int) lies, none, none] rfl (ts_finL (.is (.is (.is (.is (.is (.is (.is (.is (.any (.any (.is (.is .nil)))))))))))))))))))))) hb5.2.2 (fun total3 hb14 =>
  (ts_p [vv (enc3 (encL (enc2 PyData.int PyData.int)) PyData.int (encL PyData.int)) track, vv (encL PyData.int) plan, vv (encL (enc2 PyData.int PyData.int)) track.1, vv PyData.int track.2.1, vv (encL PyData.int) track.2.2, none, vv PyData.int piece, vv PyData.int total3, none, none, none, none] rfl (ts_end (ts_if (QQ := QL _ PyData.bool) (t_B (t_2 (t_get rfl) (t_2 (t_get rfl) (t_get rfl) (f_idxL (d := 0) hb14)) f_gt)) (fun hc15 => (ts_retL t_c))
  (fun hc15 => (ts_nx (ts_p [vv (enc3 (encL (enc2 PyData.int PyData.int)) PyData.int (encL PyData.int)) track, vv (encL PyData.int) plan, vv (encL (enc2 PyData.int PyData.int)) track.1, vv PyData.int track.2.1, vv (encL PyData.int) track.2.2, none, vv PyData.int piece, vv PyData.int total3, none, none, none, none] rfl (ts_finL (.is (.is (.is (.is (.is (.is (.any (.any (.any (.any (.is (.is .nil))))))))))))))))))))))))) (fun s2 hb16 =>
  (ts_p [vv (enc3 (encL (enc2 PyData.int PyData.int)) PyData.int (encL PyData.int)) track, vv (encL PyData.int) plan, vv (encL (enc2 PyData.int PyData.int)) track.1, vv PyData.int track.2.1, vv (encL PyData.int) track.2.2, none, none, none, none, none, none, none] rfl (ts_end (ts_retF t_c)))))))))))))
noncomputable def F_law_is_cover (track : ((List (Int × Int)) × Int × (List Int))) (cover : (List Int)) : Bool :=
  (if (decide (0 < ((((rngI 1 (cover.length : Int)).filter fun k => (decide ((cover.getD (k).toNat 0) ≤ (cover.getD ((k - 1)).toNat 0)))).map fun k => k).length : Int))) = true then false
  else (Lp.el (loopR (fun (pairs : (List (Option (Int × Int)))) (piece : Int) => ((if ((decide (piece < 0)) || ((decide ((track.2.2.length : Int) ≤ piece)) || (F_law_window track piece).isNone)) = true then Stp.rt false
  else Stp.nx (pairs ++ [(F_law_window track piece)])) : Stp ((List (Option (Int × Int)))) Bool)) cover []) (fun v => v) fun (pairs2 : (List (Option (Int × Int)))) =>
  (Lp.el (loopR (fun (s : Unit) (offset : Int) => ((if (decide (((((pairs2.map fun x => x.getD (0, 0)).filter fun first_last => ((decide (first_last.1 ≤ offset)) && (decide (offset ≤ first_last.2)))).map fun first_last => first_last.1).length : Int) = 0)) = true then Stp.rt false
  else Stp.nx ()) : Stp (Unit) Bool)) (rngI 0 (track.2.1 + 1)) ()) (fun v => v) fun (s2 : Unit) =>
  true)))
def S_law_is_cover (track : ((List (Int × Int)) × Int × (List Int))) (cover : (List Int)) : Prop :=
  r62 (cover.length : Int) ∧ (rngI 1 (cover.length : Int)).length ≤ sizeLine ∧ (∀ k ∈ (rngI 1 (cover.length : Int)), ixOk cover.length k ∧ ixOk cover.length (k - 1)) ∧ ((decide (0 < ((((rngI 1 (cover.length : Int)).filter fun k => (decide ((cover.getD (k).toNat 0) ≤ (cover.getD ((k - 1)).toNat 0)))).map fun k => k).length : Int))) = false → LpR (fun (pairs : (List (Option (Int × Int)))) (piece : Int) => ((decide (piece < 0)) = false → ((decide ((track.2.2.length : Int) ≤ piece)) = false → S_law_window track piece)) ∧ (((decide (piece < 0)) || ((decide ((track.2.2.length : Int) ≤ piece)) || (F_law_window track piece).isNone)) = false → S_law_window track piece ∧ pairs.length < sizeLine)) (fun (pairs : (List (Option (Int × Int)))) (piece : Int) => ((if ((decide (piece < 0)) || ((decide ((track.2.2.length : Int) ≤ piece)) || (F_law_window track piece).isNone)) = true then Stp.rt false
  else Stp.nx (pairs ++ [(F_law_window track piece)])) : Stp ((List (Option (Int × Int)))) Bool)) cover [] ∧ (∀ (pairs2 : (List (Option (Int × Int)))), (loopR (fun (pairs : (List (Option (Int × Int)))) (piece : Int) => ((if ((decide (piece < 0)) || ((decide ((track.2.2.length : Int) ≤ piece)) || (F_law_window track piece).isNone)) = true then Stp.rt false
  else Stp.nx (pairs ++ [(F_law_window track piece)])) : Stp ((List (Option (Int × Int)))) Bool)) cover []) = Lp.nx pairs2 → r62 (track.2.1 + 1) ∧ LpR (fun (s : Unit) (offset : Int) => (∀ x ∈ pairs2, x.isSome = true) ∧ ((pairs2.map fun x => x.getD (0, 0)).length ≤ sizeLine)) (fun (s : Unit) (offset : Int) => ((if (decide (((((pairs2.map fun x => x.getD (0, 0)).filter fun first_last => ((decide (first_last.1 ≤ offset)) && (decide (offset ≤ first_last.2)))).map fun first_last => first_last.1).length : Int) = 0)) = true then Stp.rt false
  else Stp.nx ()) : Stp (Unit) Bool)) (rngI 0 (track.2.1 + 1)) ()))
theorem T_law_is_cover (track : ((List (Int × Int)) × Int × (List Int))) (cover : (List Int)) (h : S_law_is_cover track cover) : m_law_is_cover [(enc3 (encL (enc2 PyData.int PyData.int)) PyData.int (encL PyData.int)) track, (encL PyData.int) cover] = .ok (PyData.bool (F_law_is_cover track cover)) :=
  t_fn (b := b_law_is_cover) (eτ := PyData.bool) rfl
  ((ts_p [vv (enc3 (encL (enc2 PyData.int PyData.int)) PyData.int (encL PyData.int)) track, vv (encL PyData.int) cover, none, none, none, none, none, none, none, none, none] rfl (ts_asg (t_get rfl) (tg_t (tg_c tg_n (tg_c tg_n (tg_c tg_n tg_e))) rfl) (ts_p [vv (enc3 (encL (enc2 PyData.int PyData.int)) PyData.int (encL PyData.int)) track, vv (encL PyData.int) cover, vv (encL (enc2 PyData.int PyData.int)) track.1, vv PyData.int track.2.1, vv (encL PyData.int) track.2.2, none, none, none, none, none, none] rfl (ts_if (QQ := QF PyData.bool) (t_B (t_2 (t_call (t_cons (t_L (t_lc (e := PyData.int) (xs := (rngI 1 (cover.length : Int))) (e' := PyData.int) (t_wk (t_cons t_c (t_cons (t_call (t_cons (t_get rfl) t_nil) f_lenL) t_nil)) (f_rng2 (by decide) h.1)) h.2.1 (fun k => tg_n) (fun k hx1 => (tm_p [vv (enc3 (encL (enc2 PyData.int PyData.int)) PyData.int (encL PyData.int)) track, vv (encL PyData.int) cover, vv (encL (enc2 PyData.int PyData.int)) track.1, vv PyData.int track.2.1, vv (encL PyData.int) track.2.2, vv PyData.int k, none, none, none, none, none] rfl (t_B (t_2 (t_2 (t_get rfl) (t_get rfl) (f_idxL (d := 0) (h.2.2.1 k hx1).1)) (t_2 (t_get rfl) (t_2 (t_get rfl) t_c f_sub) (f_idxL (d := 0) (h.2.2.1 k hx1).2)) f_le)))) (fun k hx1 hc2 => (tm_p [vv (enc3 (encL (enc2 PyData.int PyData.int)) PyData.int (encL PyData.int)) track, vv (encL PyData.int) cover, vv (encL (enc2 PyData.int PyData.int)) track.1, vv PyData.int track.2.1, vv (encL PyData.int) track.2.2, vv PyData.int k, none, none, none, none, none] rfl (t_get rfl))))) t_nil) f_lenL) t_c f_gt)) (fun hc3 => (ts_retF t_c))
  (fun hc3 => (ts_nx (ts_p [vv (enc3 (encL (enc2 PyData.int PyData.int)) PyData.int (encL PyData.int)) track, vv (encL PyData.int) cover, vv (encL (enc2 PyData.int PyData.int)) track.1, vv PyData.int track.2.1, vv (encL PyData.int) track.2.2, none, none, none, none, none, none] rfl (ts_setO (t_dsp t_nil (ln_r rfl)) (ts_p [vv (enc3 (encL (enc2 PyData.int PyData.int)) PyData.int (encL PyData.int)) track, vv (encL PyData.int) cover, vv (encL (enc2 PyData.int PyData.int)) track.1, vv PyData.int track.2.1, vv (encL PyData.int) track.2.2, none, vo PyData.int [], none, none, none, none] rfl (ts_forRU (QQ := QF PyData.bool) (e := PyData.int) (xs := cover) (eτ := PyData.bool) (F := (fun (pairs : (List (Option (Int × Int)))) (piece : Int) => ((if ((decide (piece < 0)) || ((decide ((track.2.2.length : Int) ≤ piece)) || (F_law_window track piece).isNone)) = true then Stp.rt false
  else Stp.nx (pairs ++ [(F_law_window track piece)])) : Stp ((List (Option (Int × Int)))) Bool))) (S := (fun (pairs : (List (Option (Int × Int)))) (piece : Int) => ((decide (piece < 0)) = false → ((decide ((track.2.2.length : Int) ≤ piece)) = false → S_law_window track piece)) ∧ (((decide (piece < 0)) || ((decide ((track.2.2.length : Int) ≤ piece)) || (F_law_window track piece).isNone)) = false → S_law_window track piece ∧ pairs.length < sizeLine))) (E := fun (pairs : (List (Option (Int × Int)))) => [vv (enc3 (encL (enc2 PyData.int PyData.int)) PyData.int (encL PyData.int)) track, vv (encL PyData.int) cover, vv (encL (enc2 PyData.int PyData.int)) track.1, vv PyData.int track.2.1, vv (encL PyData.int) track.2.2, none, vo (encO (enc2 PyData.int PyData.int)) pairs, none, none, none, none]) (K := fun v => v) (fun _ _ => kF) (.is (.is (.is (.is (.is (.is (.is (.any (.is (.is (.is .nil))))))))))) (t_items (t_get rfl) f_items) (h.2.2.2 hc3).1 (fun pairs piece => tg_n) (fun pairs piece hx5 hb4 =>
  (ts_p [vv (enc3 (encL (enc2 PyData.int PyData.int)) PyData.int (encL PyData.int)) track, vv (encL PyData.int) cover, vv (encL (enc2 PyData.int PyData.int)) track.1, vv PyData.int track.2.1, vv (encL PyData.int) track.2.2, none, vo (encO (enc2 PyData.int PyData.int)) pairs, vv PyData.int piece, none, none, none] rfl (ts_if (QQ := QL _ PyData.bool) (t_orB (t_B (t_2 (t_get rfl) t_c f_lt)) fun hc6 => (t_orB (t_B (t_2 (t_get rfl) (t_call (t_cons (t_get rfl) t_nil) f_lenL) f_ge)) fun hc7 => (t_B (t_2 (t_seq (t_cons (t_get rfl) (t_cons (t_get rfl) t_nil)) (T_law_window _ _ ((hb4.1 hc6) hc7))) t_c (f_isN (fun _ => rfl)))))) (fun hc8 => (ts_retL t_c))
  (fun hc8 => (ts_nx (ts_p [vv (enc3 (encL (enc2 PyData.int PyData.int)) PyData.int (encL PyData.int)) track, vv (encL PyData.int) cover, vv (encL (enc2 PyData.int PyData.int)) track.1, vv PyData.int track.2.1, vv (encL PyData.int) track.2.2, none, vo (encO (enc2 PyData.int PyData.int)) pairs, vv PyData.int piece, none, none, none] rfl (ts_end (ts_app (e := (encO (enc2 PyData.int PyData.int))) rfl (t_seq (t_cons (t_get rfl) (t_cons (t_get rfl) t_nil)) (T_law_window _ _ (hb4.2 hc8).1)) (hb4.2 hc8).2 (ts_p [vv (enc3 (encL (enc2 PyData.int PyData.int)) PyData.int (encL PyData.int)) track, vv (encL PyData.int) cover, vv (encL (enc2 PyData.int PyData.int)) track.1, vv PyData.int track.2.1, vv (encL PyData.int) track.2.2, none, vo (encO (enc2 PyData.int PyData.int)) (pairs ++ [(F_law_window track piece)]), vv PyData.int piece, none, none, none] rfl (ts_finL (.is (.is (.is (.is (.is (.is (.is (.any (.is (.is (.is .nil))))))))))))))))))))) (fun pairs2 hb9 =>
  (ts_p [vv (enc3 (encL (enc2 PyData.int PyData.int)) PyData.int (encL PyData.int)) track, vv (encL PyData.int) cover, vv (encL (enc2 PyData.int PyData.int)) track.1, vv PyData.int track.2.1, vv (encL PyData.int) track.2.2, none, vo (encO (enc2 PyData.int PyData.int)) pairs2, none, none, none, none] rfl (ts_fz (ts_p [vv (enc3 (encL (enc2 PyData.int PyData.int)) PyData.int (encL PyData.int)) track, vv (encL PyData.int) cover, vv (encL (enc2 PyData.int PyData.int)) track.1, vv PyData.int track.2.1, vv (encL PyData.int) track.2.2, none, vv (encL (encO (enc2 PyData.int PyData.int))) pairs2, none, none, none, none] rfl (ts_forRU (QQ := QF PyData.bool) (e := PyData.int) (xs := (rngI 0 (track.2.1 + 1))) (eτ := PyData.bool) (F := (fun (s : Unit) (offset : Int) => ((if (decide (((((pairs2.map fun x => x.getD (0, 0)).filter fun first_last => ((decide (first_last.1 ≤ offset)) && (decide (offset ≤ first_last.2)))).map fun first_last => first_last.1).length : Int) = 0)) = true then Stp.rt false
  else Stp.nx ()) : Stp (Unit) Bool))) (S := (fun (s : Unit) (offset : Int) => (∀ x ∈ pairs2, x.isSome = true) ∧ ((pairs2.map fun x => x.getD (0, 0)).length ≤ sizeLine))) (E := fun (s : Unit) => [vv (enc3 (encL (enc2 PyData.int PyData.int)) PyData.int (encL PyData.int)) track, vv (encL PyData.int) cover, vv (encL (enc2 PyData.int PyData.int)) track.1, vv PyData.int track.2.1, vv (encL PyData.int) track.2.2, none, vv (encL (encO (enc2 PyData.int PyData.int))) pairs2, none, none, none, none]) (K := fun v => v) (fun _ _ => kF) (.is (.is (.is (.is (.is (.is (.is (.is (.any (.is (.is .nil))))))))))) (t_wk (t_cons (t_2 (t_get rfl) t_c f_add) t_nil) (f_rng1 ((h.2.2.2 hc3).2 pairs2 hb9).1)) ((h.2.2.2 hc3).2 pairs2 hb9).2 (fun s offset => tg_n) (fun s offset hx11 hb10 =>
  (ts_p [vv (enc3 (encL (enc2 PyData.int PyData.int)) PyData.int (encL PyData.int)) track, vv (encL PyData.int) cover, vv (encL (enc2 PyData.int PyData.int)) track.1, vv PyData.int track.2.1, vv (encL PyData.int) track.2.2, none, vv (encL (encO (enc2 PyData.int PyData.int))) pairs2, none, vv PyData.int offset, none, none] rfl (ts_end (ts_if (QQ := QL _ PyData.bool) (t_B (t_2 (t_call (t_cons (t_L (t_lc (e := (enc2 PyData.int PyData.int)) (xs := (pairs2.map fun x => x.getD (0, 0))) (e' := PyData.int) (t_cast (t_items (t_get rfl) f_items) (unLO (d := (0, 0)) hb10.1)) hb10.2 (fun first_last => (tg_t (tg_c tg_n (tg_c tg_n tg_e)) rfl)) (fun first_last hx12 => (tm_p [vv (enc3 (encL (enc2 PyData.int PyData.int)) PyData.int (encL PyData.int)) track, vv (encL PyData.int) cover, vv (encL (enc2 PyData.int PyData.int)) track.1, vv PyData.int track.2.1, vv (encL PyData.int) track.2.2, none, vv (encL (encO (enc2 PyData.int PyData.int))) pairs2, none, vv PyData.int offset, vv PyData.int first_last.1, vv PyData.int first_last.2] rfl (t_andB (t_B (t_2 (t_get rfl) (t_get rfl) f_le)) fun hc13 => (t_B (t_2 (t_get rfl) (t_get rfl) f_le))))) (fun first_last hx12 hc14 => (tm_p [vv (enc3 (encL (enc2 PyData.int PyData.int)) PyData.int (encL PyData.int)) track, vv (encL PyData.int) cover, vv (encL (enc2 PyData.int PyData.int)) track.1, vv PyData.int track.2.1, vv (encL PyData.int) track.2.2, none, vv (encL (encO (enc2 PyData.int PyData.int))) pairs2, none, vv PyData.int offset, vv PyData.int first_last.1, vv PyData.int first_last.2] rfl (t_get rfl))))) t_nil) f_lenL) t_c (f_eq eqe_I))) (fun hc15 => (ts_retL t_c))
  (fun hc15 => (ts_nx (ts_p [vv (enc3 (encL (enc2 PyData.int PyData.int)) PyData.int (encL PyData.int)) track, vv (encL PyData.int) cover, vv (encL (enc2 PyData.int PyData.int)) track.1, vv PyData.int track.2.1, vv (encL PyData.int) track.2.2, none, vv (encL (encO (enc2 PyData.int PyData.int))) pairs2, none, vv PyData.int offset, none, none] rfl (ts_finL (.is (.is (.is (.is (.is (.is (.is (.is (.any (.is (.is .nil))))))))))))))))))) (fun s2 hb16 =>
  (ts_p [vv (enc3 (encL (enc2 PyData.int PyData.int)) PyData.int (encL PyData.int)) track, vv (encL PyData.int) cover, vv (encL (enc2 PyData.int PyData.int)) track.1, vv PyData.int track.2.1, vv (encL PyData.int) track.2.2, none, vv (encL (encO (enc2 PyData.int PyData.int))) pairs2, none, none, none, none] rfl (ts_end (ts_retF t_c))))))))))))))))))))
noncomputable def F_law_right (track : ((List (Int × Int)) × Int × (List Int))) (paper : (Int × (List Int) × (List Int))) : Bool :=
  (if ((!(F_law_plan_holds track paper.2.1)) || (!(F_law_is_cover track paper.2.2))) = true then false
  else ((decide (paper.2.1.sum = paper.1)) && (decide ((paper.2.2.map fun piece => (track.2.2.getD (piece).toNat 0)).sum = paper.1))))
def S_law_right (track : ((List (Int × Int)) × Int × (List Int))) (paper : (Int × (List Int) × (List Int))) : Prop :=
  S_law_plan_holds track paper.2.1 ∧ ((!(F_law_plan_holds track paper.2.1)) = false → S_law_is_cover track paper.2.2) ∧ (((!(F_law_plan_holds track paper.2.1)) || (!(F_law_is_cover track paper.2.2))) = false → ((decide (paper.2.1.sum = paper.1)) = true → paper.2.2.length ≤ sizeLine ∧ (∀ piece ∈ paper.2.2, ixOk track.2.2.length piece)))
theorem T_law_right (track : ((List (Int × Int)) × Int × (List Int))) (paper : (Int × (List Int) × (List Int))) (h : S_law_right track paper) : m_law_right [(enc3 (encL (enc2 PyData.int PyData.int)) PyData.int (encL PyData.int)) track, (enc3 PyData.int (encL PyData.int) (encL PyData.int)) paper] = .ok (PyData.bool (F_law_right track paper)) :=
  t_fn (b := b_law_right) (eτ := PyData.bool) rfl
  ((ts_p [vv (enc3 (encL (enc2 PyData.int PyData.int)) PyData.int (encL PyData.int)) track, vv (enc3 PyData.int (encL PyData.int) (encL PyData.int)) paper, none, none, none, none] rfl (ts_asg (t_get rfl) (tg_t (tg_c tg_n (tg_c tg_n (tg_c tg_n tg_e))) rfl) (ts_p [vv (enc3 (encL (enc2 PyData.int PyData.int)) PyData.int (encL PyData.int)) track, vv (enc3 PyData.int (encL PyData.int) (encL PyData.int)) paper, vv PyData.int paper.1, vv (encL PyData.int) paper.2.1, vv (encL PyData.int) paper.2.2, none] rfl (ts_if (QQ := QF PyData.bool) (t_orB (t_notB (t_T (t_seq (t_cons (t_get rfl) (t_cons (t_get rfl) t_nil)) (T_law_plan_holds _ _ h.1)) f_truB)) fun hc1 => (t_notB (t_T (t_seq (t_cons (t_get rfl) (t_cons (t_get rfl) t_nil)) (T_law_is_cover _ _ (h.2.1 hc1))) f_truB))) (fun hc2 => (ts_retF t_c))
  (fun hc2 => (ts_nx (ts_p [vv (enc3 (encL (enc2 PyData.int PyData.int)) PyData.int (encL PyData.int)) track, vv (enc3 PyData.int (encL PyData.int) (encL PyData.int)) paper, vv PyData.int paper.1, vv (encL PyData.int) paper.2.1, vv (encL PyData.int) paper.2.2, none] rfl (ts_end (ts_retF (t_and (t_2 (t_call (t_cons (t_get rfl) t_nil) f_sum) (t_get rfl) (f_eq eqe_I)) fun hc3 => (t_2 (t_call (t_cons (t_L (t_lc0 (e := PyData.int) (xs := paper.2.2) (e' := PyData.int) (t_items (t_get rfl) f_items) ((h.2.2 hc2) hc3).1 (fun piece => tg_n) (fun piece hx4 => (tm_p [vv (enc3 (encL (enc2 PyData.int PyData.int)) PyData.int (encL PyData.int)) track, vv (enc3 PyData.int (encL PyData.int) (encL PyData.int)) paper, vv PyData.int paper.1, vv (encL PyData.int) paper.2.1, vv (encL PyData.int) paper.2.2, vv PyData.int piece] rfl (t_2 (t_2 (t_get rfl) t_c (f_i2 _ _ _ _)) (t_get rfl) (f_idxL (d := 0) (((h.2.2 hc2) hc3).2 piece hx4))))))) t_nil) f_sum) (t_get rfl) (f_eq eqe_I)))))))))))))
noncomputable def F_is_whole (value : Int) : Bool :=
  (true && (!false))
theorem T_is_whole (value : Int) : m_is_whole [PyData.int value] = .ok (PyData.bool (F_is_whole value)) :=
  t_fn (b := b_is_whole) (eτ := PyData.bool) rfl
  ((ts_p [vv PyData.int value] rfl (ts_end (ts_retF (t_and (t_is (t_get rfl) rfl) fun hc1 => (t_1 (t_is (t_get rfl) rfl) f_not))))))
noncomputable def F_are_numbers (values : (List Int)) (least : Int) : Bool :=
  ((values.map fun value => ((F_is_whole value) && (decide (least ≤ value)))).all id)
def S_are_numbers (values : (List Int)) (least : Int) : Prop :=
  values.length ≤ sizeLine
theorem T_are_numbers (values : (List Int)) (least : Int) (h : S_are_numbers values least) : m_are_numbers [(encL PyData.int) values, PyData.int least] = .ok (PyData.bool (F_are_numbers values least)) :=
  t_fn (b := b_are_numbers) (eτ := PyData.bool) rfl
  ((ts_p [vv (encL PyData.int) values, vv PyData.int least, none] rfl (ts_end (ts_retF (t_call (t_cons (t_L (t_lc0 (e := PyData.int) (xs := values) (e' := PyData.bool) (t_items (t_get rfl) f_items) h (fun value => tg_n) (fun value hx1 => (tm_p [vv (encL PyData.int) values, vv PyData.int least, vv PyData.int value] rfl (t_and (t_seq (t_cons (t_get rfl) t_nil) (T_is_whole _)) fun hc2 => (t_2 (t_get rfl) (t_get rfl) f_ge)))))) t_nil) f_all)))))
noncomputable def F_plan_holds (track : ((List (Int × Int)) × Int × (List Int))) (plan : (List Int)) : Bool :=
  (if ((!decide ((plan.length : Int) = (track.2.1 + 1))) || (!(F_are_numbers plan 0))) = true then false
  else (((F_windows track).map fun piece_first_last => (decide (((plan.drop (piece_first_last.2.1).toNat).take (((piece_first_last.2.2 + 1)).toNat - (piece_first_last.2.1).toNat)).sum ≤ (track.2.2.getD (piece_first_last.1).toNat 0)))).all id))
def S_plan_holds (track : ((List (Int × Int)) × Int × (List Int))) (plan : (List Int)) : Prop :=
  ((!decide ((plan.length : Int) = (track.2.1 + 1))) = false → S_are_numbers plan 0) ∧ (((!decide ((plan.length : Int) = (track.2.1 + 1))) || (!(F_are_numbers plan 0))) = false → S_windows track ∧ (F_windows track).length ≤ sizeLine ∧ (∀ piece_first_last ∈ (F_windows track), 0 ≤ piece_first_last.2.1 ∧ 0 ≤ (piece_first_last.2.2 + 1) ∧ ixOk track.2.2.length piece_first_last.1))
theorem T_plan_holds (track : ((List (Int × Int)) × Int × (List Int))) (plan : (List Int)) (h : S_plan_holds track plan) : m_plan_holds [(enc3 (encL (enc2 PyData.int PyData.int)) PyData.int (encL PyData.int)) track, (encL PyData.int) plan] = .ok (PyData.bool (F_plan_holds track plan)) :=
  t_fn (b := b_plan_holds) (eτ := PyData.bool) rfl
  ((ts_p [vv (enc3 (encL (enc2 PyData.int PyData.int)) PyData.int (encL PyData.int)) track, vv (encL PyData.int) plan, none, none, none, none, none, none] rfl (ts_asg (t_get rfl) (tg_t (tg_c tg_n (tg_c tg_n (tg_c tg_n tg_e))) rfl) (ts_p [vv (enc3 (encL (enc2 PyData.int PyData.int)) PyData.int (encL PyData.int)) track, vv (encL PyData.int) plan, vv (encL (enc2 PyData.int PyData.int)) track.1, vv PyData.int track.2.1, vv (encL PyData.int) track.2.2, none, none, none] rfl (ts_if (QQ := QF PyData.bool) (t_orB (t_B (t_2 (t_call (t_cons (t_get rfl) t_nil) f_lenL) (t_2 (t_get rfl) t_c f_add) (f_ne eqe_I))) fun hc1 => (t_notB (t_T (t_seq (t_cons (t_get rfl) (t_cons t_c t_nil)) (T_are_numbers _ _ (h.1 hc1))) f_truB))) (fun hc2 => (ts_retF t_c))
  (fun hc2 => (ts_nx (ts_p [vv (enc3 (encL (enc2 PyData.int PyData.int)) PyData.int (encL PyData.int)) track, vv (encL PyData.int) plan, vv (encL (enc2 PyData.int PyData.int)) track.1, vv PyData.int track.2.1, vv (encL PyData.int) track.2.2, none, none, none] rfl (ts_end (ts_retF (t_call (t_cons (t_L (t_lc0 (e := (enc3 PyData.int PyData.int PyData.int)) (xs := (F_windows track)) (e' := PyData.bool) (t_items (t_seq (t_cons (t_get rfl) t_nil) (T_windows _ (h.2 hc2).1)) f_items) (h.2 hc2).2.1 (fun piece_first_last => (tg_t (tg_c tg_n (tg_c tg_n (tg_c tg_n tg_e))) rfl)) (fun piece_first_last hx3 => (tm_p [vv (enc3 (encL (enc2 PyData.int PyData.int)) PyData.int (encL PyData.int)) track, vv (encL PyData.int) plan, vv (encL (enc2 PyData.int PyData.int)) track.1, vv PyData.int track.2.1, vv (encL PyData.int) track.2.2, vv PyData.int piece_first_last.1, vv PyData.int piece_first_last.2.1, vv PyData.int piece_first_last.2.2] rfl (t_2 (t_call (t_cons (t_cut (t_get rfl) (t_part (t_get rfl)) (t_part (t_2 (t_get rfl) t_c f_add)) (f_cut2 (a := piece_first_last.2.1) (b := (piece_first_last.2.2 + 1)) ((h.2 hc2).2.2 piece_first_last hx3).1 ((h.2 hc2).2.2 piece_first_last hx3).2.1)) t_nil) f_sum) (t_2 (t_get rfl) (t_get rfl) (f_idxL (d := 0) ((h.2 hc2).2.2 piece_first_last hx3).2.2)) f_le))))) t_nil) f_all)))))))))))
noncomputable def F_is_index (value : Int) (count : Int) : Bool :=
  ((F_is_whole value) && ((decide (0 ≤ value)) && (decide (value < count))))
theorem T_is_index (value : Int) (count : Int) : m_is_index [PyData.int value, PyData.int count] = .ok (PyData.bool (F_is_index value count)) :=
  t_fn (b := b_is_index) (eτ := PyData.bool) rfl
  ((ts_p [vv PyData.int value, vv PyData.int count] rfl (ts_end (ts_retF (t_and (t_seq (t_cons (t_get rfl) t_nil) (T_is_whole _)) fun hc1 => (t_chain t_c (t_get rfl) f_le (fun hc2 => (t_get rfl)) (fun hc2 => f_lt)))))))
noncomputable def F_rises (numbers : (List Int)) : Bool :=
  (((rngI 0 ((numbers.length : Int) - 1)).map fun k => (decide ((numbers.getD (k).toNat 0) < (numbers.getD ((k + 1)).toNat 0)))).all id)
def S_rises (numbers : (List Int)) : Prop :=
  r62 ((numbers.length : Int) - 1) ∧ (rngI 0 ((numbers.length : Int) - 1)).length ≤ sizeLine ∧ (∀ k ∈ (rngI 0 ((numbers.length : Int) - 1)), ixOk numbers.length k ∧ ixOk numbers.length (k + 1))
theorem T_rises (numbers : (List Int)) (h : S_rises numbers) : m_rises [(encL PyData.int) numbers] = .ok (PyData.bool (F_rises numbers)) :=
  t_fn (b := b_rises) (eτ := PyData.bool) rfl
  ((ts_p [vv (encL PyData.int) numbers, none] rfl (ts_end (ts_retF (t_call (t_cons (t_L (t_lc0 (e := PyData.int) (xs := (rngI 0 ((numbers.length : Int) - 1))) (e' := PyData.bool) (t_wk (t_cons (t_2 (t_call (t_cons (t_get rfl) t_nil) f_lenL) t_c f_sub) t_nil) (f_rng1 h.1)) h.2.1 (fun k => tg_n) (fun k hx1 => (tm_p [vv (encL PyData.int) numbers, vv PyData.int k] rfl (t_2 (t_2 (t_get rfl) (t_get rfl) (f_idxL (d := 0) (h.2.2 k hx1).1)) (t_2 (t_get rfl) (t_2 (t_get rfl) t_c f_add) (f_idxL (d := 0) (h.2.2 k hx1).2)) f_lt))))) t_nil) f_all)))))
noncomputable def F_are_indexes (values : (List Int)) (count : Int) : Bool :=
  (((values.map fun value => (F_is_index value count)).all id) && (F_rises values))
def S_are_indexes (values : (List Int)) (count : Int) : Prop :=
  values.length ≤ sizeLine ∧ (((values.map fun value => (F_is_index value count)).all id) = true → S_rises values)
theorem T_are_indexes (values : (List Int)) (count : Int) (h : S_are_indexes values count) : m_are_indexes [(encL PyData.int) values, PyData.int count] = .ok (PyData.bool (F_are_indexes values count)) :=
  t_fn (b := b_are_indexes) (eτ := PyData.bool) rfl
  ((ts_p [vv (encL PyData.int) values, vv PyData.int count, none] rfl (ts_end (ts_retF (t_and (t_call (t_cons (t_L (t_lc0 (e := PyData.int) (xs := values) (e' := PyData.bool) (t_items (t_get rfl) f_items) h.1 (fun value => tg_n) (fun value hx1 => (tm_p [vv (encL PyData.int) values, vv PyData.int count, vv PyData.int value] rfl (t_seq (t_cons (t_get rfl) (t_cons (t_get rfl) t_nil)) (T_is_index _ _)))))) t_nil) f_all) fun hc2 => (t_seq (t_cons (t_get rfl) t_nil) (T_rises _ (h.2 hc2))))))))
noncomputable def F_is_cover (track : ((List (Int × Int)) × Int × (List Int))) (cover : (List Int)) : Bool :=
  (if (!(F_are_indexes cover (track.2.2.length : Int))) = true then false
  else (bnd (cover.map fun piece => (F_window track piece)) fun (some_ : (List (Option (Int × Int)))) =>
  (if (!((some_.map fun pair => pair.isSome).all id)) = true then false
  else (((rngI 0 (track.2.1 + 1)).map fun offset => (((some_.map fun x => x.getD (0, 0)).map fun first_last => ((decide (first_last.1 ≤ offset)) && (decide (offset ≤ first_last.2)))).any id)).all id))))
def S_is_cover (track : ((List (Int × Int)) × Int × (List Int))) (cover : (List Int)) : Prop :=
  S_are_indexes cover (track.2.2.length : Int) ∧ ((!(F_are_indexes cover (track.2.2.length : Int))) = false → cover.length ≤ sizeLine ∧ (bnd (cover.map fun piece => (F_window track piece)) fun (some_ : (List (Option (Int × Int)))) => some_.length ≤ sizeLine ∧ ((!((some_.map fun pair => pair.isSome).all id)) = false → r62 (track.2.1 + 1) ∧ (rngI 0 (track.2.1 + 1)).length ≤ sizeLine ∧ (∀ offset ∈ (rngI 0 (track.2.1 + 1)), (∀ x ∈ some_, x.isSome = true) ∧ ((some_.map fun x => x.getD (0, 0)).length ≤ sizeLine)))))
theorem T_is_cover (track : ((List (Int × Int)) × Int × (List Int))) (cover : (List Int)) (h : S_is_cover track cover) : m_is_cover [(enc3 (encL (enc2 PyData.int PyData.int)) PyData.int (encL PyData.int)) track, (encL PyData.int) cover] = .ok (PyData.bool (F_is_cover track cover)) :=
  t_fn (b := b_is_cover) (eτ := PyData.bool) rfl
  ((ts_p [vv (enc3 (encL (enc2 PyData.int PyData.int)) PyData.int (encL PyData.int)) track, vv (encL PyData.int) cover, none, none, none, none, none, none, none, none, none] rfl (ts_asg (t_get rfl) (tg_t (tg_c tg_n (tg_c tg_n (tg_c tg_n tg_e))) rfl) (ts_p [vv (enc3 (encL (enc2 PyData.int PyData.int)) PyData.int (encL PyData.int)) track, vv (encL PyData.int) cover, vv (encL (enc2 PyData.int PyData.int)) track.1, vv PyData.int track.2.1, vv (encL PyData.int) track.2.2, none, none, none, none, none, none] rfl (ts_if (QQ := QF PyData.bool) (t_notB (t_T (t_seq (t_cons (t_get rfl) (t_cons (t_call (t_cons (t_get rfl) t_nil) f_lenL) t_nil)) (T_are_indexes _ _ h.1)) f_truB)) (fun hc1 => (ts_retF t_c))
  (fun hc1 => (ts_nx (ts_p [vv (enc3 (encL (enc2 PyData.int PyData.int)) PyData.int (encL PyData.int)) track, vv (encL PyData.int) cover, vv (encL (enc2 PyData.int PyData.int)) track.1, vv PyData.int track.2.1, vv (encL PyData.int) track.2.2, none, none, none, none, none, none] rfl (ts_setG (QQ := QF PyData.bool) (eγ := (encL (encO (enc2 PyData.int PyData.int)))) (t_L (t_lc0 (e := PyData.int) (xs := cover) (e' := (encO (enc2 PyData.int PyData.int))) (t_items (t_get rfl) f_items) (h.2 hc1).1 (fun piece => tg_n) (fun piece hx2 => (tm_p [vv (enc3 (encL (enc2 PyData.int PyData.int)) PyData.int (encL PyData.int)) track, vv (encL PyData.int) cover, vv (encL (enc2 PyData.int PyData.int)) track.1, vv PyData.int track.2.1, vv (encL PyData.int) track.2.2, none, vv PyData.int piece, none, none, none, none] rfl (t_seq (t_cons (t_get rfl) (t_cons (t_get rfl) t_nil)) (T_window _ _)))))) (h.2 hc1).2 (fun some_ hb3 =>
  (ts_p [vv (enc3 (encL (enc2 PyData.int PyData.int)) PyData.int (encL PyData.int)) track, vv (encL PyData.int) cover, vv (encL (enc2 PyData.int PyData.int)) track.1, vv PyData.int track.2.1, vv (encL PyData.int) track.2.2, vv (encL (encO (enc2 PyData.int PyData.int))) some_, none, none, none, none, none] rfl (ts_if (QQ := QF PyData.bool) (t_notB (t_T (t_call (t_cons (t_L (t_lc0 (e := (encO (enc2 PyData.int PyData.int))) (xs := some_) (e' := PyData.bool) (t_items (t_get rfl) f_items) hb3.1 (fun pair => tg_n) (fun pair hx4 => (tm_p [vv (enc3 (encL (enc2 PyData.int PyData.int)) PyData.int (encL PyData.int)) track, vv (encL PyData.int) cover, vv (encL (enc2 PyData.int PyData.int)) track.1, vv PyData.int track.2.1, vv (encL PyData.int) track.2.2, vv (encL (encO (enc2 PyData.int PyData.int))) some_, none, vv (encO (enc2 PyData.int PyData.int)) pair, none, none, none] rfl (t_2 (t_get rfl) t_c (f_isNN (fun _ => rfl))))))) t_nil) f_all) f_truB)) (fun hc5 => (ts_retF t_c))
  (fun hc5 => (ts_nx (ts_p [vv (enc3 (encL (enc2 PyData.int PyData.int)) PyData.int (encL PyData.int)) track, vv (encL PyData.int) cover, vv (encL (enc2 PyData.int PyData.int)) track.1, vv PyData.int track.2.1, vv (encL PyData.int) track.2.2, vv (encL (encO (enc2 PyData.int PyData.int))) some_, none, none, none, none, none] rfl (ts_end (ts_retF (t_call (t_cons (t_L (t_lc0 (e := PyData.int) (xs := (rngI 0 (track.2.1 + 1))) (e' := PyData.bool) (t_wk (t_cons (t_2 (t_get rfl) t_c f_add) t_nil) (f_rng1 (hb3.2 hc5).1)) (hb3.2 hc5).2.1 (fun offset => tg_n) (fun offset hx6 => (tm_p [vv (enc3 (encL (enc2 PyData.int PyData.int)) PyData.int (encL PyData.int)) track, vv (encL PyData.int) cover, vv (encL (enc2 PyData.int PyData.int)) track.1, vv PyData.int track.2.1, vv (encL PyData.int) track.2.2, vv (encL (encO (enc2 PyData.int PyData.int))) some_, none, none, none, none, vv PyData.int offset] rfl (t_call (t_cons (t_L (t_lc0 (e := (enc2 PyData.int PyData.int)) (xs := (some_.map fun x => x.getD (0, 0))) (e' := PyData.bool) (t_cast (t_items (t_get rfl) f_items) (unLO (d := (0, 0)) ((hb3.2 hc5).2.2 offset hx6).1)) ((hb3.2 hc5).2.2 offset hx6).2 (fun first_last => (tg_t (tg_c tg_n (tg_c tg_n tg_e)) rfl)) (fun first_last hx7 => (tm_p [vv (enc3 (encL (enc2 PyData.int PyData.int)) PyData.int (encL PyData.int)) track, vv (encL PyData.int) cover, vv (encL (enc2 PyData.int PyData.int)) track.1, vv PyData.int track.2.1, vv (encL PyData.int) track.2.2, vv (encL (encO (enc2 PyData.int PyData.int))) some_, none, none, vv PyData.int first_last.1, vv PyData.int first_last.2, vv PyData.int offset] rfl (t_chain (t_get rfl) (t_get rfl) f_le (fun hc8 => (t_get rfl)) (fun hc8 => f_le)))))) t_nil) f_any))))) t_nil) f_all))))))))))))))))))
noncomputable def F_judge_years (track : ((List (Int × Int)) × Int × (List Int))) (paper : (Int × (List Int) × (List Int))) : Bool :=
  (if ((!(F_plan_holds track paper.2.1)) || (!(F_is_cover track paper.2.2))) = true then false
  else ((decide (paper.2.1.sum = paper.1)) && (decide ((paper.2.2.map fun piece => (track.2.2.getD (piece).toNat 0)).sum = paper.1))))
def S_judge_years (track : ((List (Int × Int)) × Int × (List Int))) (paper : (Int × (List Int) × (List Int))) : Prop :=
  S_plan_holds track paper.2.1 ∧ ((!(F_plan_holds track paper.2.1)) = false → S_is_cover track paper.2.2) ∧ (((!(F_plan_holds track paper.2.1)) || (!(F_is_cover track paper.2.2))) = false → ((decide (paper.2.1.sum = paper.1)) = true → paper.2.2.length ≤ sizeLine ∧ (∀ piece ∈ paper.2.2, ixOk track.2.2.length piece)))
theorem T_judge_years (track : ((List (Int × Int)) × Int × (List Int))) (paper : (Int × (List Int) × (List Int))) (h : S_judge_years track paper) : m_judge_years [(enc3 (encL (enc2 PyData.int PyData.int)) PyData.int (encL PyData.int)) track, (enc3 PyData.int (encL PyData.int) (encL PyData.int)) paper] = .ok (PyData.bool (F_judge_years track paper)) :=
  t_fn (b := b_judge_years) (eτ := PyData.bool) rfl
  ((ts_p [vv (enc3 (encL (enc2 PyData.int PyData.int)) PyData.int (encL PyData.int)) track, vv (enc3 PyData.int (encL PyData.int) (encL PyData.int)) paper, none, none, none, none] rfl (ts_asg (t_get rfl) (tg_t (tg_c tg_n (tg_c tg_n (tg_c tg_n tg_e))) rfl) (ts_p [vv (enc3 (encL (enc2 PyData.int PyData.int)) PyData.int (encL PyData.int)) track, vv (enc3 PyData.int (encL PyData.int) (encL PyData.int)) paper, vv PyData.int paper.1, vv (encL PyData.int) paper.2.1, vv (encL PyData.int) paper.2.2, none] rfl (ts_if (QQ := QF PyData.bool) (t_orB (t_notB (t_T (t_seq (t_cons (t_get rfl) (t_cons (t_get rfl) t_nil)) (T_plan_holds _ _ h.1)) f_truB)) fun hc1 => (t_notB (t_T (t_seq (t_cons (t_get rfl) (t_cons (t_get rfl) t_nil)) (T_is_cover _ _ (h.2.1 hc1))) f_truB))) (fun hc2 => (ts_retF t_c))
  (fun hc2 => (ts_nx (ts_p [vv (enc3 (encL (enc2 PyData.int PyData.int)) PyData.int (encL PyData.int)) track, vv (enc3 PyData.int (encL PyData.int) (encL PyData.int)) paper, vv PyData.int paper.1, vv (encL PyData.int) paper.2.1, vv (encL PyData.int) paper.2.2, none] rfl (ts_end (ts_retF (t_and (t_2 (t_call (t_cons (t_get rfl) t_nil) f_sum) (t_get rfl) (f_eq eqe_I)) fun hc3 => (t_2 (t_call (t_cons (t_L (t_lc0 (e := PyData.int) (xs := paper.2.2) (e' := PyData.int) (t_items (t_get rfl) f_items) ((h.2.2 hc2) hc3).1 (fun piece => tg_n) (fun piece hx4 => (tm_p [vv (enc3 (encL (enc2 PyData.int PyData.int)) PyData.int (encL PyData.int)) track, vv (enc3 PyData.int (encL PyData.int) (encL PyData.int)) paper, vv PyData.int paper.1, vv (encL PyData.int) paper.2.1, vv (encL PyData.int) paper.2.2, vv PyData.int piece] rfl (t_2 (t_2 (t_get rfl) t_c (f_i2 _ _ _ _)) (t_get rfl) (f_idxL (d := 0) (((h.2.2 hc2) hc3).2 piece hx4))))))) t_nil) f_sum) (t_get rfl) (f_eq eqe_I)))))))))))))
noncomputable def F_law_best (x0 : ((List (Int × Int)) × Int × (List Int))) (x1 : (List Int)) : Int := opq PyData.int (m_law_best 8 [(enc3 (encL (enc2 PyData.int PyData.int)) PyData.int (encL PyData.int)) x0, (encL PyData.int) x1])
def S_law_best (x0 : ((List (Int × Int)) × Int × (List Int))) (x1 : (List Int)) : Prop := ∃ v : Int, m_law_best 8 [(enc3 (encL (enc2 PyData.int PyData.int)) PyData.int (encL PyData.int)) x0, (encL PyData.int) x1] = .ok (PyData.int v)
theorem T_law_best (x0 : ((List (Int × Int)) × Int × (List Int))) (x1 : (List Int)) (h : S_law_best x0 x1) : m_law_best 8 [(enc3 (encL (enc2 PyData.int PyData.int)) PyData.int (encL PyData.int)) x0, (encL PyData.int) x1] = .ok (PyData.int (F_law_best x0 x1)) := opq_T h
noncomputable def F_law (script : (List Int)) : Bool :=
  (bnd (F_law_draws script 0 8) fun (picks : (List Int)) =>
  (bnd (F_law_track script 1 13) fun (track : ((List (Int × Int)) × Int × (List Int))) =>
  (bnd (F_most_years (track.1, track.2.1, track.2.2)) fun (told : (Int × (List Int) × (List Int))) =>
  (bnd (F_law_paper track) fun (due : (Int × (List Int) × (List Int))) =>
  (if ((!(decide (told = due))) || ((!(F_law_right track due)) || (!decide ((F_judge_years track told) = true)))) = true then false
  else (Lp.el (if (decide (track.2.1 < 3)) = true then ((bnd (track.1, track.2.1, (track.2.2.map fun years => (min 3 years))) fun (small : ((List (Int × Int)) × Int × (List Int))) =>
  (bnd (F_law_best small []) fun (best : Int) =>
  (if (!(decide ((F_most_years small).1 = best))) = true then Lp.rt false
  else Lp.nx ()))) : Lp (Unit) Bool) else Lp.nx ()) (fun v => v) fun (st : Unit) =>
  (bnd ((picks.getD 0 0) % (track.2.2.length : Int)) fun (piece : Int) =>
  (bnd (track.1, track.2.1, ((((track.2.2.drop 0).take ((piece).toNat - 0)) ++ ([((track.2.2.getD (piece).toNat 0) + 1)] : List Int)) ++ (track.2.2.drop ((piece + 1)).toNat))) fun (more : ((List (Int × Int)) × Int × (List Int))) =>
  (bnd (F_most_years more) fun (grown : (Int × (List Int) × (List Int))) =>
  (if ((!(F_law_right more grown)) || ((decide (grown.1 < due.1)) || (decide ((due.1 + 1) < grown.1)))) = true then false
  else (bnd (track.1, track.2.1, ((((track.2.2.drop 0).take ((piece).toNat - 0)) ++ ([0] : List Int)) ++ (track.2.2.drop ((piece + 1)).toNat))) fun (worn : ((List (Int × Int)) × Int × (List Int))) =>
  (bnd (F_most_years worn) fun (fewer : (Int × (List Int) × (List Int))) =>
  (bnd (F_law_window track piece) fun (window_v : (Option (Int × Int))) =>
  (if ((!(F_law_right worn fewer)) || (window_v.isSome && (!decide (((fewer.2.1.drop ((window_v.getD (0, 0)).1).toNat).take ((((window_v.getD (0, 0)).2 + 1)).toNat - ((window_v.getD (0, 0)).1).toNat)).sum = 0)))) = true then false
  else ((decide ((F_judge_years more grown) = true)) && (decide ((F_judge_years worn fewer) = true)))))))))))))))))
def S_law (script : (List Int)) : Prop :=
  S_law_draws script 0 8 ∧ (bnd (F_law_draws script 0 8) fun (picks : (List Int)) => S_law_track script 1 13 ∧ (bnd (F_law_track script 1 13) fun (track : ((List (Int × Int)) × Int × (List Int))) => S_most_years (track.1, track.2.1, track.2.2) ∧ (bnd (F_most_years (track.1, track.2.1, track.2.2)) fun (told : (Int × (List Int) × (List Int))) => S_law_paper track ∧ (bnd (F_law_paper track) fun (due : (Int × (List Int) × (List Int))) => plainD 8 ((enc3 PyData.int (encL PyData.int) (encL PyData.int)) due) ∧ ((!(decide (told = due))) = false → S_law_right track due ∧ ((!(F_law_right track due)) = false → S_judge_years track told)) ∧ (((!(decide (told = due))) || ((!(F_law_right track due)) || (!decide ((F_judge_years track told) = true)))) = false → ((decide (track.2.1 < 3)) = true → track.2.2.length ≤ sizeLine ∧ (bnd (track.1, track.2.1, (track.2.2.map fun years => (min 3 years))) fun (small : ((List (Int × Int)) × Int × (List Int))) => S_law_best small [] ∧ (bnd (F_law_best small []) fun (best : Int) => S_most_years small))) ∧ (∀ (st : Unit), (if (decide (track.2.1 < 3)) = true then ((bnd (track.1, track.2.1, (track.2.2.map fun years => (min 3 years))) fun (small : ((List (Int × Int)) × Int × (List Int))) =>
  (bnd (F_law_best small []) fun (best : Int) =>
  (if (!(decide ((F_most_years small).1 = best))) = true then Lp.rt false
  else Lp.nx ()))) : Lp (Unit) Bool) else Lp.nx ()) = Lp.nx st → 0 < picks.length ∧ 0 < (track.2.2.length : Int) ∧ (bnd ((picks.getD 0 0) % (track.2.2.length : Int)) fun (piece : Int) => 0 ≤ piece ∧ ixOk track.2.2.length piece ∧ ((track.2.2.drop 0).take ((piece).toNat - 0)).length + ([((track.2.2.getD (piece).toNat 0) + 1)] : List Int).length ≤ sizeLine ∧ 0 ≤ (piece + 1) ∧ (((track.2.2.drop 0).take ((piece).toNat - 0)) ++ ([((track.2.2.getD (piece).toNat 0) + 1)] : List Int)).length + (track.2.2.drop ((piece + 1)).toNat).length ≤ sizeLine ∧ (bnd (track.1, track.2.1, ((((track.2.2.drop 0).take ((piece).toNat - 0)) ++ ([((track.2.2.getD (piece).toNat 0) + 1)] : List Int)) ++ (track.2.2.drop ((piece + 1)).toNat))) fun (more : ((List (Int × Int)) × Int × (List Int))) => S_most_years more ∧ (bnd (F_most_years more) fun (grown : (Int × (List Int) × (List Int))) => S_law_right more grown ∧ (((!(F_law_right more grown)) || ((decide (grown.1 < due.1)) || (decide ((due.1 + 1) < grown.1)))) = false → ((track.2.2.drop 0).take ((piece).toNat - 0)).length + ([0] : List Int).length ≤ sizeLine ∧ (((track.2.2.drop 0).take ((piece).toNat - 0)) ++ ([0] : List Int)).length + (track.2.2.drop ((piece + 1)).toNat).length ≤ sizeLine ∧ (bnd (track.1, track.2.1, ((((track.2.2.drop 0).take ((piece).toNat - 0)) ++ ([0] : List Int)) ++ (track.2.2.drop ((piece + 1)).toNat))) fun (worn : ((List (Int × Int)) × Int × (List Int))) => S_most_years worn ∧ (bnd (F_most_years worn) fun (fewer : (Int × (List Int) × (List Int))) => S_law_window track piece ∧ (bnd (F_law_window track piece) fun (window_v : (Option (Int × Int))) => S_law_right worn fewer ∧ ((!(F_law_right worn fewer)) = false → (window_v.isSome = true → window_v.isSome = true ∧ 0 ≤ (window_v.getD (0, 0)).1 ∧ 0 ≤ ((window_v.getD (0, 0)).2 + 1))) ∧ (((!(F_law_right worn fewer)) || (window_v.isSome && (!decide (((fewer.2.1.drop ((window_v.getD (0, 0)).1).toNat).take ((((window_v.getD (0, 0)).2 + 1)).toNat - ((window_v.getD (0, 0)).1).toNat)).sum = 0)))) = false → S_judge_years more grown ∧ ((decide ((F_judge_years more grown) = true)) = true → S_judge_years worn fewer)))))))))))))))
theorem T_law (script : (List Int)) (h : S_law script) : m_law [(encL PyData.int) script] = .ok (PyData.bool (F_law script)) :=
  t_fn (b := b_law) (eτ := PyData.bool) rfl
  ((ts_p [vv (encL PyData.int) script, none, none, none, none, none, none, none, none, none, none, none, none, none, none, none, none] rfl (ts_setG (QQ := QF PyData.bool) (eγ := (encL PyData.int)) (t_seq (t_cons (t_get rfl) (t_cons t_c (t_cons t_c t_nil))) (T_law_draws _ _ _ h.1)) h.2 (fun picks hb1 =>
  (ts_p [vv (encL PyData.int) script, vv (encL PyData.int) picks, none, none, none, none, none, none, none, none, none, none, none, none, none, none, none] rfl (ts_setG (QQ := QF PyData.bool) (eγ := (enc3 (encL (enc2 PyData.int PyData.int)) PyData.int (encL PyData.int))) (t_seq (t_cons (t_get rfl) (t_cons t_c (t_cons t_c t_nil))) (T_law_track _ _ _ hb1.1)) hb1.2 (fun track hb2 =>
  (ts_p [vv (encL PyData.int) script, vv (encL PyData.int) picks, vv (enc3 (encL (enc2 PyData.int PyData.int)) PyData.int (encL PyData.int)) track, none, none, none, none, none, none, none, none, none, none, none, none, none, none] rfl (ts_asg (t_get rfl) (tg_t (tg_c tg_n (tg_c tg_n (tg_c tg_n tg_e))) rfl) (ts_p [vv (encL PyData.int) script, vv (encL PyData.int) picks, vv (enc3 (encL (enc2 PyData.int PyData.int)) PyData.int (encL PyData.int)) track, vv (encL (enc2 PyData.int PyData.int)) track.1, vv PyData.int track.2.1, vv (encL PyData.int) track.2.2, none, none, none, none, none, none, none, none, none, none, none] rfl (ts_setG (QQ := QF PyData.bool) (eγ := (enc3 PyData.int (encL PyData.int) (encL PyData.int))) (t_seq (t_cons (t_as (enc3 (encL (enc2 PyData.int PyData.int)) PyData.int (encL PyData.int)) (track.1, track.2.1, track.2.2) (t_seq (t_cons (t_call (t_cons (t_get rfl) t_nil) f_listL) (t_cons (t_get rfl) (t_cons (t_call (t_cons (t_get rfl) t_nil) f_listL) t_nil))) (mTup_ok rfl))) t_nil) (T_most_years _ hb2.1)) hb2.2 (fun told hb3 =>
  (ts_p [vv (encL PyData.int) script, vv (encL PyData.int) picks, vv (enc3 (encL (enc2 PyData.int PyData.int)) PyData.int (encL PyData.int)) track, vv (encL (enc2 PyData.int PyData.int)) track.1, vv PyData.int track.2.1, vv (encL PyData.int) track.2.2, vv (enc3 PyData.int (encL PyData.int) (encL PyData.int)) told, none, none, none, none, none, none, none, none, none, none] rfl (ts_setG (QQ := QF PyData.bool) (eγ := (enc3 PyData.int (encL PyData.int) (encL PyData.int))) (t_seq (t_cons (t_get rfl) t_nil) (T_law_paper _ hb3.1)) hb3.2 (fun due hb4 =>
  (ts_p [vv (encL PyData.int) script, vv (encL PyData.int) picks, vv (enc3 (encL (enc2 PyData.int PyData.int)) PyData.int (encL PyData.int)) track, vv (encL (enc2 PyData.int PyData.int)) track.1, vv PyData.int track.2.1, vv (encL PyData.int) track.2.2, vv (enc3 PyData.int (encL PyData.int) (encL PyData.int)) told, vv (enc3 PyData.int (encL PyData.int) (encL PyData.int)) due, none, none, none, none, none, none, none, none, none] rfl (ts_if (QQ := QF PyData.bool) (t_orB (t_notB (t_T (t_seq (t_cons (t_get rfl) (t_cons (t_get rfl) t_nil)) (like_ok (lke_3 lke_I (lke_L lke_I) (lke_L lke_I)) hb4.1)) f_truB)) fun hc5 => (t_orB (t_notB (t_T (t_seq (t_cons (t_get rfl) (t_cons (t_get rfl) t_nil)) (T_law_right _ _ (hb4.2.1 hc5).1)) f_truB)) fun hc6 => (t_B (t_2 (t_seq (t_cons (t_get rfl) (t_cons (t_get rfl) t_nil)) (T_judge_years _ _ ((hb4.2.1 hc5).2 hc6))) t_c (d_isNB _ _))))) (fun hc7 => (ts_retF t_c))
  (fun hc7 => (ts_nx (ts_p [vv (encL PyData.int) script, vv (encL PyData.int) picks, vv (enc3 (encL (enc2 PyData.int PyData.int)) PyData.int (encL PyData.int)) track, vv (encL (enc2 PyData.int PyData.int)) track.1, vv PyData.int track.2.1, vv (encL PyData.int) track.2.2, vv (enc3 PyData.int (encL PyData.int) (encL PyData.int)) told, vv (enc3 PyData.int (encL PyData.int) (encL PyData.int)) due, none, none, none, none, none, none, none, none, none] rfl (ts_joinR (QQ := QF PyData.bool) (eτ := PyData.bool) (E := fun (st : Unit) => [vv (encL PyData.int) script, vv (encL PyData.int) picks, vv (enc3 (encL (enc2 PyData.int PyData.int)) PyData.int (encL PyData.int)) track, vv (encL (enc2 PyData.int PyData.int)) track.1, vv PyData.int track.2.1, vv (encL PyData.int) track.2.2, vv (enc3 PyData.int (encL PyData.int) (encL PyData.int)) told, vv (enc3 PyData.int (encL PyData.int) (encL PyData.int)) due, none, none, none, none, none, none, none, none, none]) (K := fun v => v) (fun _ _ => kF) (t_B (t_2 (t_get rfl) t_c f_lt)) (fun hc8 => (ts_p [vv (encL PyData.int) script, vv (encL PyData.int) picks, vv (enc3 (encL (enc2 PyData.int PyData.int)) PyData.int (encL PyData.int)) track, vv (encL (enc2 PyData.int PyData.int)) track.1, vv PyData.int track.2.1, vv (encL PyData.int) track.2.2, vv (enc3 PyData.int (encL PyData.int) (encL PyData.int)) told, vv (enc3 PyData.int (encL PyData.int) (encL PyData.int)) due, none, none, none, none, none, none, none, none, none] rfl (ts_setG (QQ := QR _ PyData.bool) (eγ := (enc3 (encL (enc2 PyData.int PyData.int)) PyData.int (encL PyData.int))) (t_as (enc3 (encL (enc2 PyData.int PyData.int)) PyData.int (encL PyData.int)) (track.1, track.2.1, (track.2.2.map fun years => (min 3 years))) (t_seq (t_cons (t_get rfl) (t_cons (t_get rfl) (t_cons (t_L (t_lc0 (e := PyData.int) (xs := track.2.2) (e' := PyData.int) (t_items (t_get rfl) f_items) ((hb4.2.2 hc7).1 hc8).1 (fun years => tg_n) (fun years hx9 => (tm_p [vv (encL PyData.int) script, vv (encL PyData.int) picks, vv (enc3 (encL (enc2 PyData.int PyData.int)) PyData.int (encL PyData.int)) track, vv (encL (enc2 PyData.int PyData.int)) track.1, vv PyData.int track.2.1, vv (encL PyData.int) track.2.2, vv (enc3 PyData.int (encL PyData.int) (encL PyData.int)) told, vv (enc3 PyData.int (encL PyData.int) (encL PyData.int)) due, none, vv PyData.int years, none, none, none, none, none, none, none] rfl (t_call (t_cons t_c (t_cons (t_get rfl) t_nil)) f_min2))))) t_nil))) (mTup_ok rfl))) ((hb4.2.2 hc7).1 hc8).2 (fun small hb10 =>
  (ts_p [vv (encL PyData.int) script, vv (encL PyData.int) picks, vv (enc3 (encL (enc2 PyData.int PyData.int)) PyData.int (encL PyData.int)) track, vv (encL (enc2 PyData.int PyData.int)) track.1, vv PyData.int track.2.1, vv (encL PyData.int) track.2.2, vv (enc3 PyData.int (encL PyData.int) (encL PyData.int)) told, vv (enc3 PyData.int (encL PyData.int) (encL PyData.int)) due, vv (enc3 (encL (enc2 PyData.int PyData.int)) PyData.int (encL PyData.int)) small, none, none, none, none, none, none, none, none] rfl (ts_setG (QQ := QR _ PyData.bool) (eγ := PyData.int) (t_seq (t_cons (t_get rfl) (t_cons (t_as (encL PyData.int) [] (t_as (encL PyData.int) [] (t_seq t_nil (mLst_ok rfl)))) t_nil)) (T_law_best _ _ hb10.1)) hb10.2 (fun best hb11 =>
  (ts_p [vv (encL PyData.int) script, vv (encL PyData.int) picks, vv (enc3 (encL (enc2 PyData.int PyData.int)) PyData.int (encL PyData.int)) track, vv (encL (enc2 PyData.int PyData.int)) track.1, vv PyData.int track.2.1, vv (encL PyData.int) track.2.2, vv (enc3 PyData.int (encL PyData.int) (encL PyData.int)) told, vv (enc3 PyData.int (encL PyData.int) (encL PyData.int)) due, vv (enc3 (encL (enc2 PyData.int PyData.int)) PyData.int (encL PyData.int)) small, none, vv PyData.int best, none, none, none, none, none, none] rfl (ts_end (ts_if (QQ := QR _ PyData.bool) (t_notB (t_T (t_seq (t_cons (t_2 (t_seq (t_cons (t_get rfl) t_nil) (T_most_years _ hb11)) t_c (f_i0 _ _)) (t_cons (t_get rfl) t_nil)) (like_ok lke_I (PlE.ok ple_I _))) f_truB)) (fun hc12 => (ts_retR t_c))
  (fun hc12 => (ts_nx (ts_p [vv (encL PyData.int) script, vv (encL PyData.int) picks, vv (enc3 (encL (enc2 PyData.int PyData.int)) PyData.int (encL PyData.int)) track, vv (encL (enc2 PyData.int PyData.int)) track.1, vv PyData.int track.2.1, vv (encL PyData.int) track.2.2, vv (enc3 PyData.int (encL PyData.int) (encL PyData.int)) told, vv (enc3 PyData.int (encL PyData.int) (encL PyData.int)) due, vv (enc3 (encL (enc2 PyData.int PyData.int)) PyData.int (encL PyData.int)) small, none, vv PyData.int best, none, none, none, none, none, none] rfl (ts_finR (.is (.is (.is (.is (.is (.is (.is (.is (.any (.is (.any (.is (.is (.is (.is (.is (.is .nil))))))))))))))))))))))))))))))) (fun hc8 => (ts_p [vv (encL PyData.int) script, vv (encL PyData.int) picks, vv (enc3 (encL (enc2 PyData.int PyData.int)) PyData.int (encL PyData.int)) track, vv (encL (enc2 PyData.int PyData.int)) track.1, vv PyData.int track.2.1, vv (encL PyData.int) track.2.2, vv (enc3 PyData.int (encL PyData.int) (encL PyData.int)) told, vv (enc3 PyData.int (encL PyData.int) (encL PyData.int)) due, none, none, none, none, none, none, none, none, none] rfl (ts_finR (.is (.is (.is (.is (.is (.is (.is (.is (.any (.is (.any (.is (.is (.is (.is (.is (.is .nil)))))))))))))))))))) (fun st hb13 =>
  (ts_p [vv (encL PyData.int) script, vv (encL PyData.int) picks, vv (enc3 (encL (enc2 PyData.int PyData.int)) PyData.int (encL PyData.int)) track, vv (encL (enc2 PyData.int PyData.int)) track.1, vv PyData.int track.2.1, vv (encL PyData.int) track.2.2, vv (enc3 PyData.int (encL PyData.int) (encL PyData.int)) told, vv (enc3 PyData.int (encL PyData.int) (encL PyData.int)) due, none, none, none, none, none, none, none, none, none] rfl (ts_setG (QQ := QF PyData.bool) (eγ := PyData.int) (t_2 (t_2 (t_get rfl) t_c (f_idxK (d := 0) 0 rfl ((hb4.2.2 hc7).2 st hb13).1)) (t_call (t_cons (t_get rfl) t_nil) f_lenL) (f_mod ((hb4.2.2 hc7).2 st hb13).2.1)) ((hb4.2.2 hc7).2 st hb13).2.2 (fun piece hb14 =>
  (ts_p [vv (encL PyData.int) script, vv (encL PyData.int) picks, vv (enc3 (encL (enc2 PyData.int PyData.int)) PyData.int (encL PyData.int)) track, vv (encL (enc2 PyData.int PyData.int)) track.1, vv PyData.int track.2.1, vv (encL PyData.int) track.2.2, vv (enc3 PyData.int (encL PyData.int) (encL PyData.int)) told, vv (enc3 PyData.int (encL PyData.int) (encL PyData.int)) due, none, none, none, vv PyData.int piece, none, none, none, none, none] rfl (ts_setG (QQ := QF PyData.bool) (eγ := (enc3 (encL (enc2 PyData.int PyData.int)) PyData.int (encL PyData.int))) (t_as (enc3 (encL (enc2 PyData.int PyData.int)) PyData.int (encL PyData.int)) (track.1, track.2.1, ((((track.2.2.drop 0).take ((piece).toNat - 0)) ++ ([((track.2.2.getD (piece).toNat 0) + 1)] : List Int)) ++ (track.2.2.drop ((piece + 1)).toNat))) (t_seq (t_cons (t_get rfl) (t_cons (t_get rfl) (t_cons (t_2 (t_2 (t_cut (t_get rfl) (t_part t_c) (t_part (t_get rfl)) (f_cut2 (a := 0) (b := piece) (by decide) hb14.1)) (t_as (encL PyData.int) ([((track.2.2.getD (piece).toNat 0) + 1)] : List Int) (t_seq (t_cons (t_2 (t_2 (t_get rfl) (t_get rfl) (f_idxL (d := 0) hb14.2.1)) t_c f_add) t_nil) (mLst_ok rfl))) (f_addL hb14.2.2.1)) (t_cut (t_get rfl) (t_part (t_2 (t_get rfl) t_c f_add)) t_no (f_cut1 (a := (piece + 1)) hb14.2.2.2.1)) (f_addL hb14.2.2.2.2.1)) t_nil))) (mTup_ok rfl))) hb14.2.2.2.2.2 (fun more hb15 =>
  (ts_p [vv (encL PyData.int) script, vv (encL PyData.int) picks, vv (enc3 (encL (enc2 PyData.int PyData.int)) PyData.int (encL PyData.int)) track, vv (encL (enc2 PyData.int PyData.int)) track.1, vv PyData.int track.2.1, vv (encL PyData.int) track.2.2, vv (enc3 PyData.int (encL PyData.int) (encL PyData.int)) told, vv (enc3 PyData.int (encL PyData.int) (encL PyData.int)) due, none, none, none, vv PyData.int piece, vv (enc3 (encL (enc2 PyData.int PyData.int)) PyData.int (encL PyData.int)) more, none, none, none, none] rfl (ts_setG (QQ := QF PyData.bool) (eγ := (enc3 PyData.int (encL PyData.int) (encL PyData.int))) (t_seq (t_cons (t_get rfl) t_nil) (T_most_years _ hb15.1)) hb15.2 (fun grown hb16 =>
  (ts_p [vv (encL PyData.int) script, vv (encL PyData.int) picks, vv (enc3 (encL (enc2 PyData.int PyData.int)) PyData.int (encL PyData.int)) track, vv (encL (enc2 PyData.int PyData.int)) track.1, vv PyData.int track.2.1, vv (encL PyData.int) track.2.2, vv (enc3 PyData.int (encL PyData.int) (encL PyData.int)) told, vv (enc3 PyData.int (encL PyData.int) (encL PyData.int)) due, none, none, none, vv PyData.int piece, vv (enc3 (encL (enc2 PyData.int PyData.int)) PyData.int (encL PyData.int)) more, vv (enc3 PyData.int (encL PyData.int) (encL PyData.int)) grown, none, none, none] rfl (ts_if (QQ := QF PyData.bool) (t_orB (t_notB (t_T (t_seq (t_cons (t_get rfl) (t_cons (t_get rfl) t_nil)) (T_law_right _ _ hb16.1)) f_truB)) fun hc17 => (t_orB (t_B (t_2 (t_2 (t_get rfl) t_c (f_i0 _ _)) (t_2 (t_get rfl) t_c (f_i0 _ _)) f_lt)) fun hc18 => (t_B (t_2 (t_2 (t_get rfl) t_c (f_i0 _ _)) (t_2 (t_2 (t_get rfl) t_c (f_i0 _ _)) t_c f_add) f_gt)))) (fun hc19 => (ts_retF t_c))
  (fun hc19 => (ts_nx (ts_p [vv (encL PyData.int) script, vv (encL PyData.int) picks, vv (enc3 (encL (enc2 PyData.int PyData.int)) PyData.int (encL PyData.int)) track, vv (encL (enc2 PyData.int PyData.int)) track.1, vv PyData.int track.2.1, vv (encL PyData.int) track.2.2, vv (enc3 PyData.int (encL PyData.int) (encL PyData.int)) told, vv (enc3 PyData.int (encL PyData.int) (encL PyData.int)) due, none, none, none, vv PyData.int piece, vv (enc3 (encL (enc2 PyData.int PyData.int)) PyData.int (encL PyData.int)) more, vv (enc3 PyData.int (encL PyData.int) (encL PyData.int)) grown, none, none, none] rfl (ts_setG (QQ := QF PyData.bool) (eγ := (enc3 (encL (enc2 PyData.int PyData.int)) PyData.int (encL PyData.int))) (t_as (enc3 (encL (enc2 PyData.int PyData.int)) PyData.int (encL PyData.int)) (track.1, track.2.1, ((((track.2.2.drop 0).take ((piece).toNat - 0)) ++ ([0] : List Int)) ++ (track.2.2.drop ((piece + 1)).toNat))) (t_seq (t_cons (t_get rfl) (t_cons (t_get rfl) (t_cons (t_2 (t_2 (t_cut (t_get rfl) (t_part t_c) (t_part (t_get rfl)) (f_cut2 (a := 0) (b := piece) (by decide) hb14.1)) (t_as (encL PyData.int) ([0] : List Int) (t_seq (t_cons t_c t_nil) (mLst_ok rfl))) (f_addL (hb16.2 hc19).1)) (t_cut (t_get rfl) (t_part (t_2 (t_get rfl) t_c f_add)) t_no (f_cut1 (a := (piece + 1)) hb14.2.2.2.1)) (f_addL (hb16.2 hc19).2.1)) t_nil))) (mTup_ok rfl))) (hb16.2 hc19).2.2 (fun worn hb20 =>
  (ts_p [vv (encL PyData.int) script, vv (encL PyData.int) picks, vv (enc3 (encL (enc2 PyData.int PyData.int)) PyData.int (encL PyData.int)) track, vv (encL (enc2 PyData.int PyData.int)) track.1, vv PyData.int track.2.1, vv (encL PyData.int) track.2.2, vv (enc3 PyData.int (encL PyData.int) (encL PyData.int)) told, vv (enc3 PyData.int (encL PyData.int) (encL PyData.int)) due, none, none, none, vv PyData.int piece, vv (enc3 (encL (enc2 PyData.int PyData.int)) PyData.int (encL PyData.int)) more, vv (enc3 PyData.int (encL PyData.int) (encL PyData.int)) grown, vv (enc3 (encL (enc2 PyData.int PyData.int)) PyData.int (encL PyData.int)) worn, none, none] rfl (ts_setG (QQ := QF PyData.bool) (eγ := (enc3 PyData.int (encL PyData.int) (encL PyData.int))) (t_seq (t_cons (t_get rfl) t_nil) (T_most_years _ hb20.1)) hb20.2 (fun fewer hb21 =>
  (ts_p [vv (encL PyData.int) script, vv (encL PyData.int) picks, vv (enc3 (encL (enc2 PyData.int PyData.int)) PyData.int (encL PyData.int)) track, vv (encL (enc2 PyData.int PyData.int)) track.1, vv PyData.int track.2.1, vv (encL PyData.int) track.2.2, vv (enc3 PyData.int (encL PyData.int) (encL PyData.int)) told, vv (enc3 PyData.int (encL PyData.int) (encL PyData.int)) due, none, none, none, vv PyData.int piece, vv (enc3 (encL (enc2 PyData.int PyData.int)) PyData.int (encL PyData.int)) more, vv (enc3 PyData.int (encL PyData.int) (encL PyData.int)) grown, vv (enc3 (encL (enc2 PyData.int PyData.int)) PyData.int (encL PyData.int)) worn, vv (enc3 PyData.int (encL PyData.int) (encL PyData.int)) fewer, none] rfl (ts_setG (QQ := QF PyData.bool) (eγ := (encO (enc2 PyData.int PyData.int))) (t_seq (t_cons (t_get rfl) (t_cons (t_get rfl) t_nil)) (T_law_window _ _ hb21.1)) hb21.2 (fun window_v hb22 =>
  (ts_p [vv (encL PyData.int) script, vv (encL PyData.int) picks, vv (enc3 (encL (enc2 PyData.int PyData.int)) PyData.int (encL PyData.int)) track, vv (encL (enc2 PyData.int PyData.int)) track.1, vv PyData.int track.2.1, vv (encL PyData.int) track.2.2, vv (enc3 PyData.int (encL PyData.int) (encL PyData.int)) told, vv (enc3 PyData.int (encL PyData.int) (encL PyData.int)) due, none, none, none, vv PyData.int piece, vv (enc3 (encL (enc2 PyData.int PyData.int)) PyData.int (encL PyData.int)) more, vv (enc3 PyData.int (encL PyData.int) (encL PyData.int)) grown, vv (enc3 (encL (enc2 PyData.int PyData.int)) PyData.int (encL PyData.int)) worn, vv (enc3 PyData.int (encL PyData.int) (encL PyData.int)) fewer, vv (encO (enc2 PyData.int PyData.int)) window_v] rfl (ts_if (QQ := QF PyData.bool) (t_orB (t_notB (t_T (t_seq (t_cons (t_get rfl) (t_cons (t_get rfl) t_nil)) (T_law_right _ _ hb22.1)) f_truB)) fun hc23 => (t_andB (t_B (t_2 (t_get rfl) t_c (f_isNN (fun _ => rfl)))) fun hc24 => (t_B (t_2 (t_call (t_cons (t_cut (t_2 (t_get rfl) t_c (f_i1 _ _ _)) (t_part (t_2 (t_unO (d := (0, 0)) (t_get rfl) ((hb22.2.1 hc23) hc24).1) t_c (f_i0 _ _))) (t_part (t_2 (t_2 (t_unO (d := (0, 0)) (t_get rfl) ((hb22.2.1 hc23) hc24).1) t_c (f_i1 _ _ _)) t_c f_add)) (f_cut2 (a := (window_v.getD (0, 0)).1) (b := ((window_v.getD (0, 0)).2 + 1)) ((hb22.2.1 hc23) hc24).2.1 ((hb22.2.1 hc23) hc24).2.2)) t_nil) f_sum) t_c (f_ne eqe_I))))) (fun hc25 => (ts_retF t_c))
  (fun hc25 => (ts_nx (ts_p [vv (encL PyData.int) script, vv (encL PyData.int) picks, vv (enc3 (encL (enc2 PyData.int PyData.int)) PyData.int (encL PyData.int)) track, vv (encL (enc2 PyData.int PyData.int)) track.1, vv PyData.int track.2.1, vv (encL PyData.int) track.2.2, vv (enc3 PyData.int (encL PyData.int) (encL PyData.int)) told, vv (enc3 PyData.int (encL PyData.int) (encL PyData.int)) due, none, none, none, vv PyData.int piece, vv (enc3 (encL (enc2 PyData.int PyData.int)) PyData.int (encL PyData.int)) more, vv (enc3 PyData.int (encL PyData.int) (encL PyData.int)) grown, vv (enc3 (encL (enc2 PyData.int PyData.int)) PyData.int (encL PyData.int)) worn, vv (enc3 PyData.int (encL PyData.int) (encL PyData.int)) fewer, vv (encO (enc2 PyData.int PyData.int)) window_v] rfl (ts_end (ts_retF (t_and (t_2 (t_seq (t_cons (t_get rfl) (t_cons (t_get rfl) t_nil)) (T_judge_years _ _ (hb22.2.2 hc25).1)) t_c (d_isB _ _)) fun hc26 => (t_2 (t_seq (t_cons (t_get rfl) (t_cons (t_get rfl) t_nil)) (T_judge_years _ _ ((hb22.2.2 hc25).2 hc26))) t_c (d_isB _ _))))))))))))))))))))))))))))))))))))))))))))))))))))))
end Law
end
section
set_option Elab.async false
set_option linter.all false
set_option maxRecDepth 100000
set_option maxHeartbeats 2000000
open PySem PV
namespace Law
theorem draws_T (ns : List Int) {a c : Int} (h0 : 0 ≤ a) (c0 : 0 ≤ c) (c1 : c < 2 ^ 20) : S_law_draws ns a c ∧ ((F_law_draws ns a c).length : Int) = c ∧ ∀ x ∈ F_law_draws ns a c, 0 ≤ x ∧ x < 5040 := by
  show Ok (S_law_draws ns a c) (F_law_draws ns a c) fun ds => (ds.length : Int) = c ∧ ∀ x ∈ ds, 0 ≤ x ∧ x < 5040
  unfold S_law_draws F_law_draws
  refine ok_g (fun h => ⟨h0, of_decide_eq_true h⟩) (ok_bnd (fun _ => True) trivial fun cell _ => ok_bnd (fun _ => True) trivial fun great _ => ok_g (r62_s (by omega) (by omega)) (ok_for0 (fun (s : Int × List Int) => (s.2.length : Int) = c ∧ ∀ x ∈ s.2, 0 ≤ x ∧ x < 5040) (LpS_rng (fun k (s : Int × List Int) => (s.2.length : Int) = k ∧ ∀ x ∈ s.2, 0 ≤ x ∧ x < 5040) ⟨rfl, fun x hx => nomatch hx⟩ c0 fun k s k0 k1 hs => ?_) fun s hs => hs))
  obtain ⟨hs1, hs2⟩ := hs
  have hlt : s.2.length < sizeLine := by rw [line_eq]; omega
  have sn : ∀ v : Int, 0 ≤ v → v < 5040 → ((s.2 ++ [v]).length : Int) = k + 1 ∧ ∀ x ∈ s.2 ++ [v], 0 ≤ x ∧ x < 5040 := fun v v0 v1 => by
    refine ⟨by rw [List.length_append, List.length_singleton]; omega, fun x hx => ?_⟩
    rcases List.mem_append.mp hx with hx | hx
    · exact hs2 x hx
    · rw [List.mem_singleton] at hx; omega
  cases great with
  | true => exact ⟨⟨fun _ => hlt, fun h => nomatch h⟩, sn _ (by omega) (by omega)⟩
  | false =>
    refine ⟨⟨(fun h => nomatch h), fun _ => ⟨mulOk_r (by omega) (by omega), hlt⟩⟩, sn _ (by omega) (by omega)⟩
/-! saddles -/
abbrev Trk := List (Int × Int) × Int × List Int
def Fit (sp : Int) : Int → List (Int × Int) → Int → Prop
  | e, [], n => e ≤ n
  | e, (p, w) :: r, n => e ≤ p ∧ 1 ≤ w ∧ Fit sp (p + w + sp) r n
structure TrOk (t : Trk) : Prop where
  sp0 : 0 ≤ t.2.1
  sp1 : t.2.1 ≤ 60
  ne : t.1 ≠ []
  ln : t.1.length ≤ 20
  fit : Fit t.2.1 0 t.1 t.2.2.length
  lf : ∀ x ∈ t.2.2, 0 ≤ x
  big : t.2.2.length ≤ 10000
def Wn (sp q : Int) : List (Int × Int) → Option (Int × Int)
  | [] => none
  | (p, w) :: r => if 0 ≤ q - p ∧ q - p < w + sp then some (max 0 (q - p - w + 1), min sp (q - p)) else Wn sp q r
theorem window_eq (t : Trk) (q : Int) : F_window t q = Wn t.2.1 q t.1 := by
  obtain ⟨sd, sp, lf⟩ := t
  unfold F_window
  induction sd with
  | nil => rfl
  | cons x r ih =>
    obtain ⟨p, w⟩ := x
    simp only [loopR_cons, bnd] at ih ⊢
    unfold Wn
    by_cases h : 0 ≤ q - p ∧ q - p < w + sp
    · rw [if_pos h, if_pos (by simp; omega)]; rfl
    · rw [if_neg h, if_neg (by simpa using h)]; exact ih
abbrev ht (o q : Int) (x : Int × Int) : Bool := decide (x.1 + o ≤ q) && decide (q < x.1 + o + x.2)
theorem Fit.far {sp q o n : Int} (h0 : 0 ≤ sp) (ho : 0 ≤ o) : ∀ {sd : List (Int × Int)} {e : Int}, Fit sp e sd n → q < e → sd.filter (ht o q) = [] ∧ Wn sp q sd = none
  | [], _, _, _ => ⟨rfl, rfl⟩
  | (p, w) :: r, e, h, hq => by
    obtain ⟨h1, h2, h3⟩ := h
    obtain ⟨a, b⟩ := Fit.far h0 ho h3 (q := q) (o := o) (by omega)
    constructor
    · rw [List.filter_cons_of_neg (by simp only [ht]; simp; omega), a]
    · unfold Wn; rw [if_neg (by omega), b]
theorem hit_len {sp q o n : Int} (h0 : 0 ≤ o) (h1 : o ≤ sp) : ∀ {sd : List (Int × Int)} {e : Int}, Fit sp e sd n → (sd.filter (ht o q)).length = match Wn sp q sd with
    | some ab => if ab.1 ≤ o ∧ o ≤ ab.2 then 1 else 0
    | none => 0
  | [], _, _ => rfl
  | (p, w) :: r, e, h => by
    obtain ⟨a1, a2, a3⟩ := h
    unfold Wn
    by_cases c : 0 ≤ q - p ∧ q - p < w + sp
    · rw [if_pos c]
      have fr := (Fit.far (o := o) (q := q) (by omega) h0 a3 (by omega)).1
      by_cases d : p + o ≤ q ∧ q < p + o + w
      · rw [List.filter_cons_of_pos (by simp only [ht]; simp; omega), fr]
        show 1 = if _ then 1 else 0
        rw [if_pos (by simp only; omega)]
      · rw [List.filter_cons_of_neg (by simp only [ht]; simp; omega), fr]
        show 0 = if _ then 1 else 0
        rw [if_neg (by simp only; omega)]
    · rw [if_neg c, List.filter_cons_of_neg (by simp only [ht]; simp; omega)]
      exact hit_len h0 h1 a3
theorem Wn_in {sp q n : Int} (h0 : 0 ≤ sp) : ∀ {sd : List (Int × Int)} {e : Int} {ab : Int × Int}, Fit sp e sd n → Wn sp q sd = some ab → 0 ≤ ab.1 ∧ ab.1 ≤ ab.2 ∧ ab.2 ≤ sp
  | [], _, _, _, h => nomatch h
  | (p, w) :: r, e, ab, h, hw => by
    obtain ⟨a1, a2, a3⟩ := h
    unfold Wn at hw
    by_cases c : 0 ≤ q - p ∧ q - p < w + sp
    · rw [if_pos c] at hw
      cases hw
      simp only
      omega
    · rw [if_neg c] at hw
      exact Wn_in h0 a3 hw
theorem fold_hit (o q : Int) : ∀ (sd : List (Int × Int)) (f : List Int), sd.foldl (fun (f : List Int) x => if ht o q x = true then f ++ [o] else f) f = f ++ List.replicate (sd.filter (ht o q)).length o
  | [], f => by simp
  | x :: r, f => by
    rw [List.foldl_cons]
    by_cases h : ht o q x = true
    · rw [if_pos h, fold_hit o q r, List.filter_cons_of_pos h, List.length_cons, List.replicate_succ, List.append_assoc]; rfl
    · rw [if_neg h, fold_hit o q r, List.filter_cons_of_neg h]
/-- the offsets found so far -/
def fnd (w : Option (Int × Int)) (k : Int) : List Int := match w with
  | some ab => rngI ab.1 (max ab.1 (min (ab.2 + 1) k))
  | none => []
theorem law_window_T {t : Trk} (h : TrOk t) (q : Int) : Ok (S_law_window t q) (F_law_window t q) fun r => r = Wn t.2.1 q t.1 := by
  have hs0 := h.sp0
  have hs1 := h.sp1
  have hl := h.ln
  have flen : ∀ k : Int, k ≤ t.2.1 + 1 → (fnd (Wn t.2.1 q t.1) k).length ≤ 61 := fun k hk => by
    unfold fnd
    cases c : Wn t.2.1 q t.1 with
    | none => exact Nat.zero_le _
    | some ab =>
      obtain ⟨a1, a2, a3⟩ := Wn_in hs0 h.fit c
      simp only [rngI_len]
      omega
  unfold S_law_window F_law_window
  refine ok_g (r62_s (by omega) (by omega)) (ok_for (fun f => f = fnd (Wn t.2.1 q t.1) (t.2.1 + 1)) (LpS_rng (fun k f => f = fnd (Wn t.2.1 q t.1) k) ?_ (by omega) ?_) ?_)
  · unfold fnd
    cases c : Wn t.2.1 q t.1 with
    | none => rfl
    | some ab =>
      obtain ⟨a1, a2, a3⟩ := Wn_in hs0 h.fit c
      simp only
      rw [rngI_nil (by omega)]
  · rintro k f k0 k1 rfl
    constructor
    · refine (LpS_pre (fun pre s => s.length ≤ (fnd (Wn t.2.1 q t.1) k).length + pre.length) (Nat.le_refl _) fun pre x post s hx hs => ?_).1
      have hpl := congrArg List.length hx
      rw [List.length_append, List.length_cons] at hpl
      have := flen k (by omega)
      refine ⟨fun _ => by rw [line_eq]; omega, ?_⟩
      rw [List.length_append, List.length_singleton]
      split
      · rw [List.length_append, List.length_singleton]; omega
      · omega
    · show bnd (t.1.foldl _ _) _ = _
      have e := fold_hit k q t.1 (fnd (Wn t.2.1 q t.1) k)
      have e2 := hit_len (q := q) k0 (show k ≤ t.2.1 by omega) h.fit
      refine Eq.trans e ?_
      rw [e2]
      unfold fnd
      cases c : Wn t.2.1 q t.1 with
      | none => rfl
      | some ab =>
        obtain ⟨a1, a2, a3⟩ := Wn_in hs0 h.fit c
        simp only
        by_cases d : ab.1 ≤ k ∧ k ≤ ab.2
        · rw [if_pos d]
          have e3 : max ab.1 (min (ab.2 + 1) k) = k := by omega
          have e4 : max ab.1 (min (ab.2 + 1) (k + 1)) = k + 1 := by omega
          rw [e3, e4, rngI_snoc d.1]; rfl
        · rw [if_neg d]
          have e3 : max ab.1 (min (ab.2 + 1) k) = max ab.1 (min (ab.2 + 1) (k + 1)) := by omega
          rw [e3]; simp
  · intro f hf
    have fl := flen (t.2.1 + 1) (Int.le_refl _)
    rw [← hf] at fl
    unfold fnd at hf
    cases c : Wn t.2.1 q t.1 with
    | none =>
      rw [c] at hf
      subst hf
      exact ok_ifF (fun _ => rfl) fun h => by simp at h
    | some ab =>
      obtain ⟨a1, a2, a3⟩ := Wn_in hs0 h.fit c
      have e3 : max ab.1 (min (ab.2 + 1) (t.2.1 + 1)) = ab.2 + 1 := by omega
      rw [c] at hf
      simp only [e3] at hf
      subst hf
      have el := rngI_len ab.1 (ab.2 + 1)
      refine ok_ifF (fun h => by have := of_decide_eq_true h; omega) fun _ => ok_end ⟨by omega, by omega, by omega⟩ ?_
      have e0 : (rngI ab.1 (ab.2 + 1)).getD 0 0 = ab.1 := by rw [getD_rngI (by omega)]; omega
      have e1 : (rngI ab.1 (ab.2 + 1)).getD ((((rngI ab.1 (ab.2 + 1)).length : Int) - 1)).toNat 0 = ab.2 := by rw [getD_rngI (by omega)]; omega
      rw [e0, e1]
/-! plans -/
def Tot (t : Trk) (plan : List Int) (q : Int) : Int := match Wn t.2.1 q t.1 with
  | some ab => ((plan.drop ab.1.toNat).take ((ab.2 + 1).toNat - ab.1.toNat)).sum
  | none => 0
def PH (t : Trk) (plan : List Int) : Prop := (plan.length : Int) = t.2.1 + 1 ∧ (∀ x ∈ plan, 0 ≤ x) ∧ ∀ q : Int, 0 ≤ q → q < t.2.2.length → Tot t plan q ≤ t.2.2.getD q.toNat 0
theorem are_numbers_iff (xs : List Int) (m : Int) : F_are_numbers xs m = true ↔ ∀ x ∈ xs, m ≤ x := by
  unfold F_are_numbers F_is_whole
  rw [all_map, List.all_eq_true]
  constructor
  · intro h x hx
    have := h x hx
    simpa using this
  · intro h x hx
    simpa using h x hx
theorem windows_T {t : Trk} (h : TrOk t) : Ok (S_windows t) (F_windows t) fun ws => (ws.length ≤ t.2.2.length) ∧ ∀ x : Int × Int × Int, x ∈ ws ↔ 0 ≤ x.1 ∧ x.1 < t.2.2.length ∧ Wn t.2.1 x.1 t.1 = some x.2 := by
  have hb := h.big
  unfold S_windows F_windows
  refine ok_g (r62_s (by omega) (by omega)) (ok_for0 (fun ws => (ws.length ≤ t.2.2.length) ∧ ∀ x : Int × Int × Int, x ∈ ws ↔ 0 ≤ x.1 ∧ x.1 < t.2.2.length ∧ Wn t.2.1 x.1 t.1 = some x.2) (And.imp_right (fun g => ⟨by omega, g.2⟩) (LpS_rng (fun k (ws : List (Int × Int × Int)) => (ws.length : Int) ≤ k ∧ ∀ x : Int × Int × Int, x ∈ ws ↔ 0 ≤ x.1 ∧ x.1 < k ∧ Wn t.2.1 x.1 t.1 = some x.2) ⟨Int.le_refl _, fun x => ⟨(fun hx => nomatch hx), fun hx => by omega⟩⟩ (by omega) ?_)) fun ws hw => hw)
  rintro k ws k0 k1 ⟨hl, hw⟩
  rw [window_eq]
  simp only [bnd]
  cases c : Wn t.2.1 k t.1 with
  | none =>
    refine ⟨fun hh => (nomatch hh), ?_⟩
    rw [if_neg (by simp)]
    refine ⟨by omega, fun x => ?_⟩
    rw [hw x]
    constructor
    · rintro ⟨a, b, d⟩; exact ⟨a, by omega, d⟩
    · rintro ⟨a, b, d⟩
      refine ⟨a, ?_, d⟩
      by_cases e : x.1 = k
      · rw [e, c] at d; cases d
      · omega
  | some ab =>
    refine ⟨fun _ => ⟨rfl, by rw [line_eq]; omega⟩, ?_⟩
    rw [if_pos (show (some ab).isSome = true from rfl)]
    refine ⟨by rw [List.length_append, List.length_singleton]; omega, fun x => ?_⟩
    rw [List.mem_append, List.mem_singleton, hw x]
    constructor
    · rintro (⟨a, b, d⟩ | e)
      · exact ⟨a, by omega, d⟩
      · rw [e]; exact ⟨k0, by simp only; omega, c⟩
    · rintro ⟨a, b, d⟩
      by_cases e : x.1 = k
      · right
        rw [e, c] at d
        cases d
        rw [← e]; rfl
      · left; exact ⟨a, by omega, d⟩
theorem plan_T {t : Trk} (h : TrOk t) (plan : List Int) (hl : plan.length ≤ 1000) : Ok (S_plan_holds t plan) (F_plan_holds t plan) fun b => b = true ↔ PH t plan := by
  have hs0 := h.sp0
  have hb := h.big
  have wT := windows_T h
  have hpl : plan.length ≤ sizeLine := by rw [line_eq]; omega
  unfold S_plan_holds F_plan_holds
  refine ⟨⟨fun _ => hpl, fun _ => ⟨wT.1, by rw [line_eq]; have := wT.2.1; omega, fun x hx => ?_⟩⟩, ?_⟩
  · obtain ⟨a, b, c⟩ := (wT.2.2 x).mp hx
    obtain ⟨a1, a2, a3⟩ := Wn_in hs0 h.fit c
    exact ⟨by omega, by omega, a, b⟩
  · by_cases c1 : (plan.length : Int) = t.2.1 + 1
    · by_cases c2 : F_are_numbers plan 0 = true
      · rw [if_neg (by rw [c2]; simp [c1]), all_map]
        show _ = true ↔ _
        rw [List.all_eq_true]
        have c3 := (are_numbers_iff plan 0).mp c2
        constructor
        · intro hh
          refine ⟨c1, c3, fun q q0 q1 => ?_⟩
          unfold Tot
          cases c : Wn t.2.1 q t.1 with
          | none =>
            exact h.lf _ (gd_mem (by omega))
          | some ab =>
            have := hh (q, ab) ((wT.2.2 (q, ab)).mpr ⟨q0, q1, c⟩)
            exact of_decide_eq_true this
        · rintro ⟨_, _, hh⟩ x hx
          obtain ⟨a, b, c⟩ := (wT.2.2 x).mp hx
          have := hh x.1 a b
          unfold Tot at this
          rw [c] at this
          exact decide_eq_true this
      · rw [if_pos (by simp [c2])]
        refine ⟨(fun q => nomatch q), fun q => absurd ((are_numbers_iff plan 0).mpr q.2.1) c2⟩
    · rw [if_pos (by simp [c1])]
      exact ⟨(fun q => nomatch q), fun q => absurd q.1 c1⟩
theorem neg_filter (plan : List Int) : (decide (0 < (((plan.filter fun years => decide (years < 0)).map fun years => years).length : Int))) = true ↔ ¬ ∀ x ∈ plan, 0 ≤ x := by
  rw [decide_eq_true_eq, List.length_map]
  constructor
  · intro h hh
    have : plan.filter (fun years => decide (years < 0)) = [] := List.filter_eq_nil_iff.mpr fun x hx => by have := hh x hx; simp; omega
    rw [this] at h
    exact absurd h (by decide)
  · intro h
    by_cases c : (plan.filter fun years => decide (years < 0)) = []
    · exfalso
      apply h
      intro x hx
      have := List.filter_eq_nil_iff.mp c x hx
      simp at this
      omega
    · have := List.length_pos_iff.mpr c
      omega
theorem law_plan_T {t : Trk} (h : TrOk t) (plan : List Int) (hl : plan.length ≤ 1000) : Ok (S_law_plan_holds t plan) (F_law_plan_holds t plan) fun b => b = true ↔ PH t plan := by
  have hs0 := h.sp0
  have hs1 := h.sp1
  have hb := h.big
  have hln := h.ln
  have hpl : plan.length ≤ sizeLine := by rw [line_eq]; omega
  unfold S_law_plan_holds F_law_plan_holds
  by_cases c1 : (plan.length : Int) = t.2.1 + 1
  · by_cases c2 : ∀ x ∈ plan, 0 ≤ x
    · have c3 : (decide (0 < (((plan.filter fun years => decide (years < 0)).map fun years => years).length : Int))) = false := by
        cases e : (decide (0 < (((plan.filter fun years => decide (years < 0)).map fun years => years).length : Int))) with
        | false => rfl
        | true => exact absurd c2 ((neg_filter plan).mp e)
      refine ok_g (fun _ => hpl) (ok_no (by rw [c3]; simp [c1]) ?_)
      have inner := fun q : Int => LpS_rng
          (S := fun (total : Int) (offset : Int) => t.1.length ≤ sizeLine ∧ (bnd ((t.1.filter fun place_width => ((decide ((place_width.1 + offset) ≤ q)) && (decide (q < ((place_width.1 + offset) + place_width.2))))).map fun place_width => place_width.1) fun (lies : (List Int)) => ixOk plan.length offset ∧ mulOk (plan.getD (offset).toNat 0) (if (decide (0 < (lies.length : Int))) = true then 1 else 0)))
          (F := fun (total : Int) (offset : Int) => (bnd ((t.1.filter fun place_width => ((decide ((place_width.1 + offset) ≤ q)) && (decide (q < ((place_width.1 + offset) + place_width.2))))).map fun place_width => place_width.1) fun (lies : (List Int)) => (bnd (total + ((plan.getD (offset).toNat 0) * (if (decide (0 < (lies.length : Int))) = true then 1 else 0))) fun (total2 : Int) => total2)))
          (n := t.2.1 + 1) (s0 := 0)
          (fun k tot => tot = match Wn t.2.1 q t.1 with
            | some ab => ((plan.drop ab.1.toNat).take ((min (ab.2 + 1) k).toNat - ab.1.toNat)).sum
            | none => 0) (by
              cases c : Wn t.2.1 q t.1 with
              | none => rfl
              | some ab =>
                obtain ⟨a1, a2, a3⟩ := Wn_in hs0 h.fit c
                have : (min (ab.2 + 1) 0).toNat - ab.1.toNat = 0 := by omega
                simp only [this]; simp) (by omega) (by
              rintro k tot k0 k1 rfl
              refine ⟨⟨by rw [line_eq]; omega, ⟨k0, by omega⟩, ?_⟩, ?_⟩
              · split
                · exact mulOk_r (by decide) (by decide)
                · exact mulOk_r (by decide) (by decide)
              · have e2 := hit_len (q := q) k0 (show k ≤ t.2.1 by omega) h.fit
                show bnd _ _ = _
                simp only [bnd, List.length_map]
                have e3 : (t.1.filter fun place_width => ((decide ((place_width.1 + k) ≤ q)) && (decide (q < ((place_width.1 + k) + place_width.2))))) = t.1.filter (ht k q) := rfl
                rw [e3]
                generalize (t.1.filter (ht k q)).length = L at e2
                cases c : Wn t.2.1 q t.1 with
                | none =>
                  rw [c] at e2
                  simp only at e2
                  subst e2
                  simp
                | some ab =>
                  obtain ⟨a1, a2, a3⟩ := Wn_in hs0 h.fit c
                  rw [c] at e2
                  simp only at e2 ⊢
                  by_cases d : ab.1 ≤ k ∧ k ≤ ab.2
                  · rw [if_pos d] at e2
                    subst e2
                    have e4 : (min (ab.2 + 1) (k + 1)).toNat - ab.1.toNat = ((min (ab.2 + 1) k).toNat - ab.1.toNat) + 1 := by omega
                    rw [e4, take_succ_sum, getD_drop]
                    have e5 : ab.1.toNat + ((min (ab.2 + 1) k).toNat - ab.1.toNat) = k.toNat := by omega
                    rw [e5]
                    simp
                  · rw [if_neg d] at e2
                    subst e2
                    have e4 : (min (ab.2 + 1) (k + 1)).toNat - ab.1.toNat = ((min (ab.2 + 1) k).toNat - ab.1.toNat) := by omega
                    rw [e4]
                    simp)
      refine ok_g (r62_s (by omega) (by omega)) ⟨LpR_all fun q hq => ⟨r62_s (by omega) (by omega), (inner q).1, rngI_mem.mp hq⟩, ?_⟩
      have full : ∀ q : Int, (match Wn t.2.1 q t.1 with
            | some ab => ((plan.drop ab.1.toNat).take ((min (ab.2 + 1) (t.2.1 + 1)).toNat - ab.1.toNat)).sum
            | none => 0) = Tot t plan q := fun q => by
        unfold Tot
        cases c : Wn t.2.1 q t.1 with
        | none => rfl
        | some ab =>
          obtain ⟨a1, a2, a3⟩ := Wn_in hs0 h.fit c
          have e : min (ab.2 + 1) (t.2.1 + 1) = ab.2 + 1 := by omega
          simp only [e]
      rw [loop_any (v := false) (fun q => decide (t.2.2.getD q.toNat 0 < Tot t plan q)) (fun q hq => by
        have := (inner q).2.trans (full q)
        show bnd _ _ = _
        rw [this]; rfl)]
      by_cases c4 : (rngI 0 (t.2.2.length : Int)).any (fun q => decide (t.2.2.getD q.toNat 0 < Tot t plan q)) = true
      · rw [if_pos c4]
        show false = true ↔ _
        obtain ⟨q, hq, hd⟩ := List.any_eq_true.mp c4
        obtain ⟨q0, q1⟩ := rngI_mem.mp hq
        refine ⟨(fun x => nomatch x), fun hP => ?_⟩
        have := hP.2.2 q q0 q1
        have := of_decide_eq_true hd
        omega
      · rw [if_neg c4]
        show true = true ↔ _
        refine ⟨fun _ => ⟨c1, c2, fun q q0 q1 => ?_⟩, fun _ => rfl⟩
        by_cases d : t.2.2.getD q.toNat 0 < Tot t plan q
        · exact absurd (List.any_eq_true.mpr ⟨q, rngI_mem.mpr ⟨q0, q1⟩, decide_eq_true d⟩) c4
        · omega
    · have c3 := (neg_filter plan).mpr c2
      refine ⟨⟨fun _ => hpl, fun hh => ?_⟩, ?_⟩
      · rw [c3] at hh; simp at hh
      · rw [if_pos (by rw [c3]; simp)]
        exact ⟨(fun q => nomatch q), fun q => absurd q.2.1 c2⟩
  · refine ⟨⟨fun _ => hpl, fun hh => ?_⟩, ?_⟩
    · simp [c1] at hh
    · rw [if_pos (by simp [c1])]
      exact ⟨(fun q => nomatch q), fun q => absurd q.1 c1⟩
theorem plans_eq {t : Trk} (h : TrOk t) (plan : List Int) (hl : plan.length ≤ 1000) : F_plan_holds t plan = F_law_plan_holds t plan :=
  Bool.eq_iff_iff.mpr ((plan_T h plan hl).2.trans (law_plan_T h plan hl).2.symm)
/-! covers -/
def Inc (xs : List Int) : Prop := ∀ k : Nat, k + 1 < xs.length → xs.getD k 0 < xs.getD (k + 1) 0
def CV (t : Trk) (cover : List Int) : Prop := (∀ x ∈ cover, 0 ≤ x ∧ x < t.2.2.length) ∧ Inc cover ∧ (∀ x ∈ cover, (Wn t.2.1 x t.1).isSome = true) ∧ ∀ o : Int, 0 ≤ o → o < t.2.1 + 1 → ∃ x ∈ cover, ((Wn t.2.1 x t.1).getD (0, 0)).1 ≤ o ∧ o ≤ ((Wn t.2.1 x t.1).getD (0, 0)).2
theorem rises_T (xs : List Int) (hl : xs.length ≤ 20000) : Ok (S_rises xs) (F_rises xs) fun b => b = true ↔ Inc xs := by
  have hlen := rngI_len 0 ((xs.length : Int) - 1)
  unfold S_rises F_rises
  refine ⟨⟨r62_s (by omega) (by omega), by rw [line_eq]; omega, fun k hk => ?_⟩, ?_⟩
  · obtain ⟨a, b⟩ := rngI_mem.mp hk
    exact ⟨⟨a, by omega⟩, by omega, by omega⟩
  · show _ = true ↔ _
    rw [all_map, List.all_eq_true]
    constructor
    · intro h k hk
      have := of_decide_eq_true (h (k : Int) (rngI_mem.mpr (by omega)))
      have e : ((k : Int) + 1).toNat = k + 1 := by omega
      rwa [Int.toNat_natCast, e] at this
    · intro h k hk
      obtain ⟨a, b⟩ := rngI_mem.mp hk
      have := h k.toNat (by omega)
      have e : (k + 1).toNat = k.toNat + 1 := by omega
      rw [decide_eq_true_eq, e]
      exact this
theorem is_index_iff (x n : Int) : F_is_index x n = true ↔ 0 ≤ x ∧ x < n := by
  unfold F_is_index F_is_whole
  simp
theorem indexes_T (xs : List Int) (n : Int) (hl : xs.length ≤ 20000) : Ok (S_are_indexes xs n) (F_are_indexes xs n) fun b => b = true ↔ (∀ x ∈ xs, 0 ≤ x ∧ x < n) ∧ Inc xs := by
  have hr := rises_T xs hl
  unfold S_are_indexes F_are_indexes
  refine ⟨⟨by rw [line_eq]; omega, fun _ => hr.1⟩, ?_⟩
  show _ = true ↔ _
  have hr2 : F_rises xs = true ↔ Inc xs := hr.2
  rw [Bool.and_eq_true, all_map, List.all_eq_true, hr2]
  constructor
  · rintro ⟨a, b⟩
    exact ⟨fun x hx => (is_index_iff x n).mp (a x hx), b⟩
  · rintro ⟨a, b⟩
    exact ⟨fun x hx => (is_index_iff x n).mpr (a x hx), b⟩
theorem cover_T {t : Trk} (h : TrOk t) (cover : List Int) (hl : cover.length ≤ 20000) : Ok (S_is_cover t cover) (F_is_cover t cover) fun b => b = true ↔ CV t cover := by
  have hs0 := h.sp0
  have hs1 := h.sp1
  have hi := indexes_T cover (t.2.2.length : Int) hl
  have hrl := rngI_len 0 (t.2.1 + 1)
  have hcl : cover.length ≤ sizeLine := by rw [line_eq]; omega
  unfold S_is_cover F_is_cover
  simp only [bnd, window_eq]
  refine ok_g hi.1 ?_
  by_cases c1 : F_are_indexes cover (t.2.2.length : Int) = true
  · have p1 := hi.2.mp c1
    refine ok_no (by rw [c1]; rfl) (ok_g hcl (ok_g (by rw [List.length_map]; exact hcl) ?_))
    rw [all_map, List.all_map]
    by_cases c2 : (cover.all fun x => (Wn t.2.1 x t.1).isSome) = true
    · have p2 := List.all_eq_true.mp c2
      refine ok_no (by rw [show (cover.all ((fun pair => Option.isSome pair) ∘ fun piece => Wn t.2.1 piece t.1)) = true from c2]; rfl) (ok_end ⟨r62_s (by omega) (by omega), by rw [line_eq]; omega, fun o _ => ⟨fun x hx => ?_, by rw [List.length_map, List.length_map]; exact hcl⟩⟩ ?_)
      · obtain ⟨q, hq, rfl⟩ := List.mem_map.mp hx
        exact p2 q hq
      · show _ = true ↔ _
        rw [all_map, List.all_eq_true]
        constructor
        · intro hh
          refine ⟨p1.1, p1.2, p2, fun o o0 o1 => ?_⟩
          have := hh o (rngI_mem.mpr ⟨o0, o1⟩)
          rw [any_map', List.any_map, List.any_map] at this
          obtain ⟨x, hx, hd⟩ := List.any_eq_true.mp this
          simp at hd
          exact ⟨x, hx, hd⟩
        · rintro ⟨_, _, _, hh⟩ o ho
          obtain ⟨o0, o1⟩ := rngI_mem.mp ho
          obtain ⟨x, hx, hd⟩ := hh o o0 o1
          rw [any_map', List.any_map, List.any_map]
          exact List.any_eq_true.mpr ⟨x, hx, by simpa using hd⟩
    · have c3 : (cover.all ((fun pair => Option.isSome pair) ∘ fun piece => Wn t.2.1 piece t.1)) = false := by simpa using c2
      refine ok_ifF (fun _ => ?_) fun hh => ?_
      · refine ⟨(fun x => nomatch x), fun hc => absurd (List.all_eq_true.mpr hc.2.2.1) c2⟩
      · rw [c3] at hh; cases hh
  · have c1' : F_are_indexes cover (t.2.2.length : Int) = false := by simpa using c1
    refine ok_ifF (fun _ => ?_) fun hh => ?_
    · exact ⟨(fun x => nomatch x), fun hc => absurd (hi.2.mpr ⟨hc.1, hc.2.1⟩) c1⟩
    · rw [c1'] at hh; cases hh
theorem noinc (cover : List Int) : (decide (0 < ((((rngI 1 (cover.length : Int)).filter fun k => (decide ((cover.getD (k).toNat 0) ≤ (cover.getD ((k - 1)).toNat 0)))).map fun k => k).length : Int))) = true ↔ ¬ Inc cover := by
  rw [decide_eq_true_eq, List.length_map]
  constructor
  · intro h hh
    have : (rngI 1 (cover.length : Int)).filter (fun k => (decide ((cover.getD (k).toNat 0) ≤ (cover.getD ((k - 1)).toNat 0)))) = [] := List.filter_eq_nil_iff.mpr fun k hk => by
      obtain ⟨a, b⟩ := rngI_mem.mp hk
      have := hh (k - 1).toNat (by omega)
      have e : (k - 1).toNat + 1 = k.toNat := by omega
      rw [e] at this
      rw [decide_eq_true_eq]
      omega
    rw [this] at h
    exact absurd h (by decide)
  · intro h
    by_cases c : ((rngI 1 (cover.length : Int)).filter fun k => (decide ((cover.getD (k).toNat 0) ≤ (cover.getD ((k - 1)).toNat 0)))) = []
    · exfalso
      apply h
      intro k hk
      have := List.filter_eq_nil_iff.mp c ((k + 1 : Nat) : Int) (rngI_mem.mpr (by omega))
      have e : (((k + 1 : Nat) : Int) - 1).toNat = k := by omega
      rw [e, Int.toNat_natCast, decide_eq_true_eq] at this
      omega
    · have := List.length_pos_iff.mpr c
      omega
/-- the walk over the pieces of a cover -/
theorem pairs_loop {t : Trk} (W : Int → Option (Int × Int)) (n : Int) : ∀ (cover : List Int) (acc : List (Option (Int × Int))),
    loopR (fun (pairs : List (Option (Int × Int))) (piece : Int) => ((if ((decide (piece < 0)) || ((decide (n ≤ piece)) || (W piece).isNone)) = true then Stp.rt false else Stp.nx (pairs ++ [W piece])) : Stp (List (Option (Int × Int))) Bool)) cover acc
      = if (cover.all fun x => decide (0 ≤ x) && decide (x < n) && (W x).isSome) = true then .nx (acc ++ cover.map W) else .rt false
  | [], acc => by simp [loopR]
  | x :: r, acc => by
    rw [loopR_cons]
    by_cases c : (decide (0 ≤ x) && decide (x < n) && (W x).isSome) = true
    · have c' := c
      simp at c'
      have : ((decide (x < 0)) || ((decide (n ≤ x)) || (W x).isNone)) = false := by
        have := c'.2
        cases hw : W x with
        | none => rw [hw] at this; cases this
        | some a => simp; omega
      rw [this]
      simp only [Bool.false_eq_true, if_false]
      rw [pairs_loop (t := t) W n r, List.all_cons, c, Bool.true_and]
      simp
    · have : ((decide (x < 0)) || ((decide (n ≤ x)) || (W x).isNone)) = true := by
        cases hw : W x with
        | none => simp
        | some a => rw [hw] at c; simp at c ⊢; omega
      rw [this, List.all_cons]
      have c' : (decide (0 ≤ x) && decide (x < n) && (W x).isSome) = false := by simpa using c
      rw [c']
      simp
theorem law_cover_T {t : Trk} (h : TrOk t) (cover : List Int) (hl : cover.length ≤ 20000) : Ok (S_law_is_cover t cover) (F_law_is_cover t cover) fun b => b = true ↔ CV t cover := by
  have hs0 := h.sp0
  have hs1 := h.sp1
  have hrl := rngI_len 1 (cover.length : Int)
  have hw : ∀ q, F_law_window t q = Wn t.2.1 q t.1 := fun q => (law_window_T h q).2
  unfold S_law_is_cover F_law_is_cover
  simp only [hw]
  refine ok_g (r62_s (by omega) (by omega)) (ok_g (by rw [line_eq]; omega) (ok_g (fun k hk => ?_) ?_))
  · obtain ⟨a, b⟩ := rngI_mem.mp hk
    exact ⟨⟨by omega, by omega⟩, by omega, by omega⟩
  · by_cases c1 : Inc cover
    · refine ok_no (by
        have := mt (noinc cover).mp (fun q => q c1)
        simpa using this) ?_
      have sl : LpR (fun (pairs : (List (Option (Int × Int)))) (piece : Int) => ((decide (piece < 0)) = false → ((decide ((t.2.2.length : Int) ≤ piece)) = false → S_law_window t piece)) ∧ (((decide (piece < 0)) || ((decide ((t.2.2.length : Int) ≤ piece)) || (Wn t.2.1 piece t.1).isNone)) = false → S_law_window t piece ∧ pairs.length < sizeLine)) (fun (pairs : List (Option (Int × Int))) (piece : Int) => ((if ((decide (piece < 0)) || ((decide ((t.2.2.length : Int) ≤ piece)) || (Wn t.2.1 piece t.1).isNone)) = true then Stp.rt false else Stp.nx (pairs ++ [Wn t.2.1 piece t.1])) : Stp (List (Option (Int × Int))) Bool)) cover [] := by
        have key : ∀ (r : List Int) (acc : List (Option (Int × Int))), acc.length + r.length ≤ 20000 → LpR (fun (pairs : (List (Option (Int × Int)))) (piece : Int) => ((decide (piece < 0)) = false → ((decide ((t.2.2.length : Int) ≤ piece)) = false → S_law_window t piece)) ∧ (((decide (piece < 0)) || ((decide ((t.2.2.length : Int) ≤ piece)) || (Wn t.2.1 piece t.1).isNone)) = false → S_law_window t piece ∧ pairs.length < sizeLine)) (fun (pairs : List (Option (Int × Int))) (piece : Int) => ((if ((decide (piece < 0)) || ((decide ((t.2.2.length : Int) ≤ piece)) || (Wn t.2.1 piece t.1).isNone)) = true then Stp.rt false else Stp.nx (pairs ++ [Wn t.2.1 piece t.1])) : Stp (List (Option (Int × Int))) Bool)) r acc := by
          intro r
          induction r with
          | nil => intro acc _; exact .nil
          | cons x r ih =>
            intro acc ha
            rw [List.length_cons] at ha
            refine .cons ⟨fun _ _ => (law_window_T h x).1, fun _ => ⟨(law_window_T h x).1, by rw [line_eq]; omega⟩⟩ fun s' e => ?_
            split at e
            · cases e
            · cases e
              exact ih _ (by rw [List.length_append, List.length_singleton]; omega)
        exact key cover [] (by simpa using hl)
      have lp := pairs_loop (t := t) (fun x => Wn t.2.1 x t.1) (t.2.2.length : Int) cover []
      by_cases c2 : (cover.all fun x => decide (0 ≤ x) && decide (x < (t.2.2.length : Int)) && (Wn t.2.1 x t.1).isSome) = true
      · rw [if_pos c2, List.nil_append] at lp
        have p2 := List.all_eq_true.mp c2
        refine ok_forR sl lp (ok_g (r62_s (by omega) (by omega)) ⟨LpR_all fun o _ => ⟨fun x hx => ?_, by rw [List.length_map, List.length_map, line_eq]; omega⟩, ?_⟩)
        · obtain ⟨q, hq, rfl⟩ := List.mem_map.mp hx
          have := p2 q hq
          simp at this
          exact this.2
        · rw [loop_any (v := false) (fun o => !(cover.any fun x => decide (((Wn t.2.1 x t.1).getD (0, 0)).1 ≤ o) && decide (o ≤ ((Wn t.2.1 x t.1).getD (0, 0)).2))) (fun o _ => by
            have hb : (decide (((((((cover.map fun x => Wn t.2.1 x t.1).map fun x => x.getD (0, 0)).filter fun first_last => ((decide (first_last.1 ≤ o)) && (decide (o ≤ first_last.2)))).map fun first_last => first_last.1).length : Nat) : Int) = 0)) = !(cover.any fun x => decide (((Wn t.2.1 x t.1).getD (0, 0)).1 ≤ o) && decide (o ≤ ((Wn t.2.1 x t.1).getD (0, 0)).2)) := by
             rw [List.length_map, Bool.eq_iff_iff, decide_eq_true_eq, Bool.not_eq_true', Bool.eq_false_iff]
             constructor
             · intro hz ha
               obtain ⟨x, hx, hd⟩ := List.any_eq_true.mp ha
               have : ((cover.map fun x => Wn t.2.1 x t.1).map fun x => x.getD (0, 0)).filter (fun first_last => ((decide (first_last.1 ≤ o)) && (decide (o ≤ first_last.2)))) = [] := List.length_eq_zero_iff.mp (by omega)
               exact List.filter_eq_nil_iff.mp this _ (List.mem_map.mpr ⟨_, List.mem_map.mpr ⟨x, hx, rfl⟩, rfl⟩) hd
             · intro ha
               have : ((cover.map fun x => Wn t.2.1 x t.1).map fun x => x.getD (0, 0)).filter (fun first_last => ((decide (first_last.1 ≤ o)) && (decide (o ≤ first_last.2)))) = [] := List.filter_eq_nil_iff.mpr fun ab hab hd => by
                 obtain ⟨w, hw1, rfl⟩ := List.mem_map.mp hab
                 obtain ⟨x, hx, rfl⟩ := List.mem_map.mp hw1
                 exact ha (List.any_eq_true.mpr ⟨x, hx, hd⟩)
               rw [this]; rfl
            exact congrArg (fun b : Bool => (if b = true then Stp.rt false else Stp.nx () : Stp Unit Bool)) hb)]
          have fin : (∀ x ∈ cover, 0 ≤ x ∧ x < t.2.2.length) ∧ (∀ x ∈ cover, (Wn t.2.1 x t.1).isSome = true) := by
            constructor
            · intro x hx
              have := p2 x hx
              rw [Bool.and_eq_true, Bool.and_eq_true, decide_eq_true_eq, decide_eq_true_eq] at this
              exact this.1
            · intro x hx
              have := p2 x hx
              rw [Bool.and_eq_true] at this
              exact this.2
          by_cases c3 : (rngI 0 (t.2.1 + 1)).any (fun o => !(cover.any fun x => decide (((Wn t.2.1 x t.1).getD (0, 0)).1 ≤ o) && decide (o ≤ ((Wn t.2.1 x t.1).getD (0, 0)).2))) = true
          · rw [if_pos c3]
            show false = true ↔ _
            refine ⟨(fun x => nomatch x), fun hc => ?_⟩
            obtain ⟨o, ho, hd⟩ := List.any_eq_true.mp c3
            obtain ⟨o0, o1⟩ := rngI_mem.mp ho
            obtain ⟨x, hx, hx2⟩ := hc.2.2.2 o o0 o1
            rw [Bool.not_eq_true', Bool.eq_false_iff] at hd
            exact absurd (List.any_eq_true.mpr ⟨x, hx, by rw [Bool.and_eq_true, decide_eq_true_eq, decide_eq_true_eq]; exact hx2⟩) hd
          · rw [if_neg c3]
            show true = true ↔ _
            refine ⟨fun _ => ⟨fin.1, c1, fin.2, fun o o0 o1 => ?_⟩, fun _ => rfl⟩
            cases c4 : (cover.any fun x => decide (((Wn t.2.1 x t.1).getD (0, 0)).1 ≤ o) && decide (o ≤ ((Wn t.2.1 x t.1).getD (0, 0)).2)) with
            | false => exact absurd (List.any_eq_true.mpr ⟨o, rngI_mem.mpr ⟨o0, o1⟩, by rw [c4]; rfl⟩) c3
            | true =>
              obtain ⟨x, hx, hd⟩ := List.any_eq_true.mp c4
              rw [Bool.and_eq_true, decide_eq_true_eq, decide_eq_true_eq] at hd
              exact ⟨x, hx, hd⟩
      · rw [if_neg c2] at lp
        refine ⟨⟨sl, fun s e => ?_⟩, ?_⟩
        · have := lp.symm.trans e
          cases this
        · rw [lp]
          show false = true ↔ _
          refine ⟨(fun x => nomatch x), fun hc => absurd (List.all_eq_true.mpr fun x hx => ?_) c2⟩
          have := hc.1 x hx
          rw [Bool.and_eq_true, Bool.and_eq_true, decide_eq_true_eq, decide_eq_true_eq]
          exact ⟨this, hc.2.2.1 x hx⟩
    · have c2 := (noinc cover).mpr c1
      refine ok_ifF (fun _ => ?_) fun hh => ?_
      · exact ⟨(fun x => nomatch x), fun hc => absurd hc.2.1 c1⟩
      · rw [c2] at hh; cases hh
theorem covers_eq {t : Trk} (h : TrOk t) (cover : List Int) (hl : cover.length ≤ 20000) : F_is_cover t cover = F_law_is_cover t cover :=
  Bool.eq_iff_iff.mpr ((cover_T h cover hl).2.trans (law_cover_T h cover hl).2.symm)
theorem Fit.mono {sp n m : Int} (h : n ≤ m) : ∀ {sd : List (Int × Int)} {e : Int}, Fit sp e sd n → Fit sp e sd m
  | [], _, hh => Int.le_trans hh h
  | (_, _) :: _, _, hh => ⟨hh.1, hh.2.1, Fit.mono h hh.2.2⟩
theorem Fit.snoc {sp p w m : Int} (hw : 1 ≤ w) (hm : p + w + sp ≤ m) : ∀ {sd : List (Int × Int)} {e : Int}, Fit sp e sd p → Fit sp e (sd ++ [(p, w)]) m
  | [], _, hh => ⟨hh, hw, hm⟩
  | (_, _) :: _, _, hh => ⟨hh.1, hh.2.1, Fit.snoc hw hm hh.2.2⟩
theorem law_track_T (ns : List Int) {wide : Int} (w0 : 1 ≤ wide) (w1 : wide ≤ 61) : Ok (S_law_track ns 1 wide) (F_law_track ns 1 wide) fun t => TrOk t ∧ t.2.2.length ≤ 300 ∧ (∀ x ∈ t.2.2, x < 1000) ∧ (wide ≤ 5 → t.2.1 ≤ 4) ∧ t.1.length ≤ 3 := by
  obtain ⟨sD, lD, bD⟩ := draws_T ns (a := 1) (c := 60) (by decide) (by decide) (by decide)
  unfold S_law_track F_law_track
  refine ok_g sD (ok_bnd (fun ds => (ds.length : Int) = 60 ∧ ∀ x ∈ ds, 0 ≤ x ∧ x < 5040) ⟨lD, bD⟩ fun picks ⟨hl, hb⟩ => ?_)
  have p := fun i => pk hb i
  have m4 : ∀ i : Nat, i < 60 → 0 ≤ picks.getD i 0 % 4 ∧ picks.getD i 0 % 4 < 4 := fun i hi => ⟨by omega, by omega⟩
  have g0 : 0 < (([1, 3, 5, wide] : List Int).getD (((picks.getD 1 0) % 4)).toNat 0) ∧ (([1, 3, 5, wide] : List Int).getD (((picks.getD 1 0) % 4)).toNat 0) ≤ 61 ∧ (wide ≤ 5 → (([1, 3, 5, wide] : List Int).getD (((picks.getD 1 0) % 4)).toNat 0) ≤ 5) :=
    get4P (P := fun x : Int => 0 < x ∧ x ≤ 61 ∧ (wide ≤ 5 → x ≤ 5)) (by omega) (by omega) (by omega) (by omega) (by omega) (by omega)
  obtain ⟨g1, g2, g3⟩ := g0
  have q0 := Int.emod_nonneg (picks.getD 0 0) (show ([1, 3, 5, wide] : List Int).getD (((picks.getD 1 0) % 4)).toNat 0 ≠ 0 by omega)
  have q1 := Int.emod_lt_of_pos (picks.getD 0 0) g1
  refine ok_g (by omega) (ok_g (by omega) (ok_g g1 (ok_bnd (fun sp => 0 ≤ sp ∧ sp ≤ 60 ∧ (wide ≤ 5 → sp ≤ 4)) ⟨q0, by omega, fun h => by have := g3 h; omega⟩ fun sp ⟨sp0, sp1, sp2⟩ => ok_g (by omega) (ok_bnd (fun pl => 0 ≤ pl ∧ pl ≤ 2) (by omega) fun pl ⟨pl0, pl1⟩ => ?_))))
  refine ok_g (by omega) (ok_g (r62_s (by omega) (by omega)) (ok_for (fun (s : List (Int × Int) × Int) => 1 ≤ s.1.length ∧ s.1.length ≤ 3 ∧ Fit sp 0 s.1 s.2 ∧ s.2 ≤ 230) (And.imp_right (fun g => ⟨by omega, by omega, g.2.1, by omega⟩) (LpS_rng (fun k (s : List (Int × Int) × Int) => (s.1.length : Int) = k ∧ Fit sp 0 s.1 s.2 ∧ s.2 ≤ 2 + 76 * k) ⟨rfl, pl0, by simp only; omega⟩ (by omega) ?_)) ?_))
  · rintro k ⟨sd, e⟩ k0 k1 ⟨h1, h2, h3⟩
    simp only at h1 h2 h3
    have g4 := get4P (P := fun x : Int => 0 < x ∧ x ≤ 9) (z := 0) (a := 1) (b := 3) (c := 6) (d := 9) (m4 7 (by decide)).1 (m4 7 (by decide)).2 (by omega) (by omega) (by omega) (by omega)
    generalize hW : ([1, 3, 6, 9] : List Int).getD (picks.getD 7 0 % 4).toNat 0 = W at g4
    have r0 := Int.emod_nonneg (picks.getD (4 + k).toNat 0) (show W ≠ 0 by omega)
    have r1 := Int.emod_lt_of_pos (picks.getD (4 + k).toNat 0) g4.1
    have hs := gd_snoc (l := sd) (x := (e, 1 + picks.getD (4 + k).toNat 0 % W)) (z := (0, 0)) (i := k.toNat) (by omega)
    have mz : ∀ x : Int, 0 ≤ x % 3 * (x % 4) ∧ x % 3 * (x % 4) ≤ 6 := fun x => by
      have a0 : x % 3 = 0 ∨ x % 3 = 1 ∨ x % 3 = 2 := by omega
      rcases a0 with e | e | e <;> rw [e] <;> omega
    have mz1 := mz (picks.getD (8 + k).toNat 0)
    refine ⟨⟨⟨by omega, by omega⟩, by omega, g4.1, by rw [line_eq]; simp only; omega, ⟨k0, by rw [List.length_append, List.length_singleton]; simp only; omega⟩, ⟨by omega, by omega⟩, mulOk_r (by omega) (by omega)⟩, ?_⟩
    simp only [bnd]
    rw [hs]
    refine ⟨by rw [List.length_append, List.length_singleton]; omega, Fit.snoc (by omega) (by omega) h2, by simp only; omega⟩
  · rintro ⟨sd, e⟩ ⟨h1, h2, h3, h4⟩
    simp only at h1 h2 h3 h4
    have e0 : 0 ≤ e := by
      have : ∀ (sd : List (Int × Int)) (a : Int), Fit sp a sd e → a ≤ e := by
        intro sd
        induction sd with
        | nil => intro a h; exact h
        | cons x r ih =>
          intro a h
          obtain ⟨x1, x2⟩ := x
          have := ih _ h.2.2
          have := h.1
          have := h.2.1
          omega
      exact this sd 0 h3
    have g5 := get4P (P := fun x : Int => 0 < x ∧ x ≤ 1000) (z := 0) (a := 2) (b := 4) (c := 12) (d := 1000) (i := picks.getD 7 0 / 4 % 4) (by omega) (by omega) (by omega) (by omega) (by omega) (by omega)
    generalize hW : ([2, 4, 12, 1000] : List Int).getD (picks.getD 7 0 / 4 % 4).toNat 0 = W at g5
    refine ok_g (by omega) (ok_g (r62_s (by simp only; omega) (by simp only; omega)) (ok_for0 (fun (l : List Int) => (l.length : Int) = e + picks.getD 11 0 % 4 ∧ ∀ x ∈ l, 0 ≤ x ∧ x < 1000) (LpS_rng (fun k (l : List Int) => (l.length : Int) = k ∧ ∀ x ∈ l, 0 ≤ x ∧ x < 1000) ⟨rfl, fun x hx => nomatch hx⟩ (by simp only; omega) ?_) fun l ⟨l1, l2⟩ => ?_))
    · rintro k l k0 k1 ⟨l1, l2⟩
      have r0 := Int.emod_nonneg (picks.getD (12 + k % 48).toNat 0) (show W ≠ 0 by omega)
      have r1 := Int.emod_lt_of_pos (picks.getD (12 + k % 48).toNat 0) g5.1
      refine ⟨⟨⟨by omega, by omega⟩, by omega, g5.1, ⟨by omega, by omega⟩, mulOk_l (by omega) (by omega), by rw [line_eq]; omega⟩, ?_⟩
      refine ⟨by rw [List.length_append, List.length_singleton]; omega, fun x hx => ?_⟩
      rcases List.mem_append.mp hx with hx | hx
      · exact l2 x hx
      · rw [List.mem_singleton] at hx
        rw [hx]
        split <;> omega
    · exact ⟨⟨sp0, sp1, by intro q; simp only at q; rw [q] at h1; simp at h1, by simp only; omega, Fit.mono (by simp only; omega) h3, fun x hx => (l2 x hx).1, by simp only; omega⟩, by simp only; omega, fun x hx => (l2 x hx).2, sp2, h2⟩
end Law
end
section
set_option Elab.async false
set_option linter.all false
set_option maxRecDepth 100000
set_option maxHeartbeats 2000000
open PySem PV
namespace Law
/-! years -/
def Lf (t : Trk) (q : Int) : Int := t.2.2.getD q.toNat 0
theorem Lf_pos {t : Trk} (h : TrOk t) {q : Int} (h0 : 0 ≤ q) (h1 : q < t.2.2.length) : 0 ≤ Lf t q := h.lf _ (gd_mem (by omega))
/-- a window of a piece -/
def Wd (t : Trk) (x : Int × Int × Int) : Prop := 0 ≤ x.1 ∧ x.1 < t.2.2.length ∧ Wn t.2.1 x.1 t.1 = some x.2
def NdTo (t : Trk) (need : List Int) (m : Int) : Prop := (need.length : Int) = m + 1 ∧ need.getD 0 0 = 0 ∧ ∀ k : Int, 0 ≤ k → k < m → (∀ x, Wd t x → x.2.1 ≤ k → k ≤ x.2.2 → need.getD (k + 1).toNat 0 ≤ need.getD x.2.1.toNat 0 + Lf t x.1) ∧ ∃ x, Wd t x ∧ x.2.1 ≤ k ∧ k ≤ x.2.2 ∧ need.getD (k + 1).toNat 0 = need.getD x.2.1.toNat 0 + Lf t x.1
abbrev Nd (t : Trk) (need : List Int) : Prop := NdTo t need (t.2.1 + 1)
theorem Wn_first' {sp q p w n : Int} {r : List (Int × Int)} (h : Fit sp 0 ((p, w) :: r) n) (h0 : 0 ≤ sp) : p ≤ q → q < p + w + sp → Wn sp q ((p, w) :: r) = some (max 0 (q - p - w + 1), min sp (q - p)) := fun h1 h2 => by
  unfold Wn
  rw [if_pos (by omega)]
theorem Fit.le' {sp n : Int} (h0 : 0 ≤ sp) : ∀ {sd : List (Int × Int)} {e : Int}, Fit sp e sd n → e ≤ n
  | [], _, h => h
  | (p, w) :: r, e, h => by
    have := Fit.le' h0 h.2.2
    have := h.1
    have := h.2.1
    omega
theorem has_window {t : Trk} (h : TrOk t) {k : Int} (k0 : 0 ≤ k) (k1 : k ≤ t.2.1) : ∃ x, Wd t x ∧ x.2.1 ≤ k ∧ k ≤ x.2.2 := by
  have h0 := h.sp0
  have hf := h.fit
  cases c : t.1 with
  | nil => exact absurd c h.ne
  | cons x r =>
    obtain ⟨p, w⟩ := x
    rw [c] at hf
    have hle := Fit.le' h0 hf.2.2
    have := hf.1
    have := hf.2.1
    refine ⟨(p + k, max 0 (p + k - p - w + 1), min t.2.1 (p + k - p)), ⟨by simp only; omega, by simp only; omega, ?_⟩, by simp only; omega, by simp only; omega⟩
    rw [c]
    exact Wn_first' hf h0 (by simp only; omega) (by simp only; omega)
theorem least_needs_T {t : Trk} (h : TrOk t) : Ok (S_least_needs t) (F_least_needs t) (Nd t) := by
  have h0 := h.sp0
  have h1 := h.sp1
  have hb := h.big
  have wT := windows_T h
  unfold S_least_needs F_least_needs
  refine ok_g wT.1 (ok_bnd (fun ws => ws.length ≤ t.2.2.length ∧ ∀ x, x ∈ ws ↔ Wd t x) ⟨wT.2.1, fun x => wT.2.2 x⟩ fun ws ⟨w1, w2⟩ => ok_bnd (fun n => n = [0]) rfl fun nd hnd => ok_g (r62_s (by omega) (by omega)) (ok_for0 (Nd t) (LpS_rng (fun k nd => NdTo t nd k) ?_ (by omega) ?_) fun nd hnd => hnd))
  · subst hnd
    exact ⟨rfl, rfl, fun k k0 k1 => by omega⟩
  · rintro k nd k0 k1 ⟨n1, n2, n3⟩
    obtain ⟨x0, x1, x2, x3⟩ := has_window h k0 (by omega)
    have ne : ((ws.filter fun piece_first_last => ((decide (piece_first_last.2.1 ≤ k)) && (decide (k ≤ piece_first_last.2.2)))).map fun piece_first_last => ((nd.getD (piece_first_last.2.1).toNat 0) + (t.2.2.getD (piece_first_last.1).toNat 0))) ≠ [] := fun q => by
      have := List.map_eq_nil_iff.mp q
      have m : x0 ∈ (ws.filter fun piece_first_last => ((decide (piece_first_last.2.1 ≤ k)) && (decide (k ≤ piece_first_last.2.2)))) := List.mem_filter.mpr ⟨(w2 x0).mpr x1, by simp; omega⟩
      rw [this] at m
      cases m
    refine ⟨⟨by rw [line_eq]; omega, fun x hx hc => ?_, ne, by rw [line_eq]; omega⟩, ?_⟩
    · obtain ⟨a, b, c⟩ := (w2 x).mp hx
      obtain ⟨a1, a2, a3⟩ := Wn_in h0 h.fit c
      simp at hc
      exact ⟨⟨a1, by omega⟩, a, b⟩
    · obtain ⟨m1, m2⟩ := minL_ok ne
      generalize minL ((ws.filter fun piece_first_last => ((decide (piece_first_last.2.1 ≤ k)) && (decide (k ≤ piece_first_last.2.2)))).map fun piece_first_last => ((nd.getD (piece_first_last.2.1).toNat 0) + (t.2.2.getD (piece_first_last.1).toNat 0))) = mn at m1 m2
      have old : ∀ j : Nat, j < nd.length → (nd ++ [mn]).getD j 0 = nd.getD j 0 := fun j hj => gd_app hj
      have new : (nd ++ [mn]).getD (k + 1).toNat 0 = mn := gd_snoc (by omega)
      refine ⟨by rw [List.length_append, List.length_singleton]; omega, by rw [old 0 (by omega)]; exact n2, fun j j0 j1 => ?_⟩
      by_cases c : j = k
      · subst c
        rw [new]
        constructor
        · intro x hx hx1 hx2
          obtain ⟨a1, a2, a3⟩ := Wn_in h0 h.fit hx.2.2
          rw [old _ (by omega)]
          exact m2 _ (List.mem_map.mpr ⟨x, List.mem_filter.mpr ⟨(w2 x).mpr hx, by simp; omega⟩, rfl⟩)
        · obtain ⟨x, hx, hxe⟩ := List.mem_map.mp m1
          obtain ⟨g1, g2⟩ := List.mem_filter.mp hx
          simp at g2
          have hx := (w2 x).mp g1
          obtain ⟨a1, a2, a3⟩ := Wn_in h0 h.fit hx.2.2
          refine ⟨x, hx, g2.1, g2.2, ?_⟩
          rw [old _ (by omega)]
          exact hxe.symm
      · obtain ⟨g1, g2⟩ := n3 j j0 (by omega)
        rw [old _ (by omega)]
        constructor
        · intro x hx hx1 hx2
          obtain ⟨a1, a2, a3⟩ := Wn_in h0 h.fit hx.2.2
          rw [old _ (by omega)]
          exact g1 x hx hx1 hx2
        · obtain ⟨x, hx, hx1, hx2, hx3⟩ := g2
          obtain ⟨a1, a2, a3⟩ := Wn_in h0 h.fit hx.2.2
          refine ⟨x, hx, hx1, hx2, ?_⟩
          rw [old _ (by omega)]
          exact hx3
theorem nd_mono {t : Trk} (h : TrOk t) {need : List Int} (hn : Nd t need) {k : Int} (k0 : 0 ≤ k) (k1 : k ≤ t.2.1) : need.getD k.toNat 0 ≤ need.getD (k + 1).toNat 0 := by
  obtain ⟨n1, n2, n3⟩ := hn
  obtain ⟨x, hx, hx1, hx2, hx3⟩ := (n3 k k0 (by omega)).2
  have hl := Lf_pos h hx.1 hx.2.1
  obtain ⟨a1, a2, a3⟩ := Wn_in h.sp0 h.fit hx.2.2
  by_cases c : x.2.1 = k
  · rw [hx3, c]; omega
  · have := (n3 (k - 1) (by omega) (by omega)).1 x hx (by omega) (by omega)
    have e : (k - 1 + 1) = k := by omega
    rw [e] at this
    omega
theorem last_T {t : Trk} (h : TrOk t) {need : List Int} (hn : Nd t need) {k : Int} (k0 : 1 ≤ k) (k1 : k ≤ t.2.1 + 1) : Ok (S_last_of_cover t need k) (F_last_of_cover t need k) fun r => ∃ x, r = some (x.1, x.2.1) ∧ Wd t x ∧ x.2.1 ≤ k - 1 ∧ k - 1 ≤ x.2.2 ∧ need.getD x.2.1.toNat 0 + Lf t x.1 = need.getD k.toNat 0 := by
  have h0 := h.sp0
  obtain ⟨n1, n2, n3⟩ := hn
  have wT := windows_T h
  unfold S_last_of_cover F_last_of_cover
  refine ok_g wT.1 (ok_find (fun x => (((decide (x.2.1 ≤ (k - 1))) && (decide ((k - 1) ≤ x.2.2))) && (decide (((need.getD (x.2.1).toNat 0) + (t.2.2.getD (x.1).toNat 0)) = (need.getD (k).toNat 0))))) (fun x => some (x.1, x.2.1)) (fun x hx hc => ?_) (fun _ => rfl) ?_ fun x hx hp => ?_)
  · obtain ⟨a, b, c⟩ := (wT.2.2 x).mp hx
    obtain ⟨a1, a2, a3⟩ := Wn_in h0 h.fit c
    simp at hc
    exact ⟨⟨a1, by omega⟩, ⟨a, b⟩, by omega, by omega⟩
  · obtain ⟨x, hx, hx1, hx2, hx3⟩ := (n3 (k - 1) (by omega) (by omega)).2
    have e : (k - 1 + 1) = k := by omega
    rw [e] at hx3
    refine ⟨x, (wT.2.2 x).mpr hx, ?_⟩
    rw [Bool.and_eq_true, Bool.and_eq_true, decide_eq_true_eq, decide_eq_true_eq, decide_eq_true_eq]
    exact ⟨⟨hx1, hx2⟩, hx3.symm⟩
  · rw [Bool.and_eq_true, Bool.and_eq_true, decide_eq_true_eq, decide_eq_true_eq, decide_eq_true_eq] at hp
    exact ⟨x, rfl, (wT.2.2 x).mp hx, hp.1.1, hp.1.2, hp.2⟩
theorem least_cover_T {t : Trk} (h : TrOk t) {need : List Int} (hn : Nd t need) : Ok (S_least_cover t need) (F_least_cover t need) fun c => CV t c ∧ c.length ≤ 61 ∧ (c.map (Lf t)).sum = need.getD (t.2.1 + 1).toNat 0 ∧ c.Nodup := by
  have h0 := h.sp0
  have h1 := h.sp1
  have n1 := hn.1
  have n2 := hn.2.1
  unfold S_least_cover F_least_cover
  refine ok_bnd (fun k => k = t.2.1 + 1) (by omega) fun k0 hk0 => ok_wh0 (fun (s : List Int × Int) => 0 ≤ s.2 ∧ s.2 ≤ t.2.1 + 1 ∧ (s.1.length : Int) ≤ t.2.1 + 1 - s.2 ∧ (∀ x ∈ s.1, 0 ≤ x ∧ x < t.2.2.length ∧ ∃ ab, Wn t.2.1 x t.1 = some ab ∧ s.2 ≤ ab.1) ∧ s.1.Nodup ∧ (∀ o, s.2 ≤ o → o ≤ t.2.1 → ∃ x ∈ s.1, ∃ ab, Wn t.2.1 x t.1 = some ab ∧ ab.1 ≤ o ∧ o ≤ ab.2) ∧ (s.1.map (Lf t)).sum = need.getD (t.2.1 + 1).toNat 0 - need.getD s.2.toNat 0) (wh_ok _ (fun s => s.2.toNat) ?_ ?_ ?_) ?_
  · subst hk0
    refine ⟨by simp only; omega, Int.le_refl _, by simp, fun x hx => (nomatch hx), List.nodup_nil, fun o a b => by simp only at a; omega, by simp⟩
  · simp only; omega
  · rintro ⟨fd, k⟩ ⟨i1, i2, i3, i4, i5, i6, i7⟩
    refine ⟨trivial, fun ht => ?_⟩
    have hk := of_decide_eq_true ht
    simp only at i1 i2 i3 i4 i5 i6 i7 hk ⊢
    obtain ⟨sL, x, hx, hxw, hx1, hx2, hx3⟩ := last_T h hn (k := k) (by omega) i2
    obtain ⟨a1, a2, a3⟩ := Wn_in h0 h.fit hxw.2.2
    refine ⟨⟨sL, by rw [hx]; rfl, show fd.length < sizeLine by rw [line_eq]; omega⟩, (fd ++ [x.1], x.2.1), by rw [hx]; rfl, ⟨a1, by simp only; omega, by rw [List.length_append, List.length_singleton]; simp only; omega, fun y hy => ?_, ?_, fun o o0 o1 => ?_, ?_⟩, by simp only; omega⟩
    · rcases List.mem_append.mp hy with hy | hy
      · obtain ⟨g1, g2, ab, g3, g4⟩ := i4 y hy
        exact ⟨g1, g2, ab, g3, by simp only; omega⟩
      · rw [List.mem_singleton] at hy
        subst hy
        exact ⟨hxw.1, hxw.2.1, x.2, hxw.2.2, Int.le_refl _⟩
    · refine List.nodup_append.mpr ⟨i5, by simp, fun y hy z hz e => ?_⟩
      rw [List.mem_singleton] at hz
      subst hz
      subst e
      obtain ⟨g1, g2, ab, g3, g4⟩ := i4 _ hy
      rw [hxw.2.2] at g3
      cases g3
      omega
    · simp only at o0
      by_cases c : k ≤ o
      · obtain ⟨y, hy, g⟩ := i6 o c o1
        exact ⟨y, List.mem_append_left _ hy, g⟩
      · exact ⟨x.1, List.mem_append_right _ (List.mem_singleton.mpr rfl), x.2, hxw.2.2, o0, by omega⟩
    · rw [List.map_append, List.sum_append, i7]
      show _ + ([Lf t x.1] : List Int).sum = _
      rw [List.sum_singleton]
      simp only
      omega
  · rintro ⟨fd, k⟩ ⟨i1, i2, i3, i4, i5, i6, i7⟩ ht
    have hk := of_decide_eq_false ht
    simp only at i1 i2 i3 i4 i5 i6 i7 hk ⊢
    have e : k = 0 := by omega
    subst e
    have pm := List.mergeSort_perm fd leI
    have nd : (fd.mergeSort leI).Nodup := pm.nodup_iff.mpr i5
    refine ⟨⟨fun x hx => ?_, inc_of (leI_sorted fd) nd, fun x hx => ?_, fun o o0 o1 => ?_⟩, by rw [leI_len]; omega, ?_⟩
    · obtain ⟨g1, g2, _⟩ := i4 x (leI_mem.mp hx)
      exact ⟨g1, g2⟩
    · obtain ⟨_, _, ab, g3, _⟩ := i4 x (leI_mem.mp hx)
      rw [g3]; rfl
    · obtain ⟨x, hx, ab, g1, g2⟩ := i6 o o0 (by omega)
      refine ⟨x, leI_mem.mpr hx, ?_⟩
      rw [g1]; exact g2
    · rw [sum_perm' (pm.map (Lf t)), i7]
      have : (0 : Int).toNat = 0 := rfl
      rw [this, n2]
      exact ⟨by omega, nd⟩
theorem plan_get (need : List Int) (m : Int) {j : Nat} (hj : (j : Int) < m) : ((rngI 0 m).map fun k => ((need.getD ((k + 1)).toNat 0) - (need.getD (k).toNat 0))).getD j 0 = need.getD (j + 1) 0 - need.getD j 0 := by
  rw [List.getD_eq_getElem?_getD, List.getElem?_map, rngI_get (by omega)]
  show need.getD _ 0 - need.getD _ 0 = _
  have e1 : (0 + (j : Int) + 1).toNat = j + 1 := by omega
  have e2 : (0 + (j : Int)).toNat = j := by omega
  rw [e1, e2]
theorem plan_sum (need : List Int) (m : Int) (a : Nat) : ∀ c : Nat, ((a + c : Nat) : Int) ≤ m → (((((rngI 0 m).map fun k => ((need.getD ((k + 1)).toNat 0) - (need.getD (k).toNat 0)))).drop a).take c).sum = need.getD (a + c) 0 - need.getD a 0
  | 0, _ => by simp
  | c + 1, h => by
    rw [take_succ_sum, plan_sum need m a c (by omega), getD_drop, plan_get need m (by omega)]
    have : a + c + 1 = a + (c + 1) := by omega
    rw [this]; omega
theorem most_T {t : Trk} (h : TrOk t) : Ok (S_most_years t) (F_most_years t) fun pa => PH t pa.2.1 ∧ CV t pa.2.2 ∧ pa.2.1.sum = pa.1 ∧ (pa.2.2.map (Lf t)).sum = pa.1 ∧ pa.2.2.length ≤ 61 ∧ pa.2.2.Nodup := by
  have h0 := h.sp0
  have h1 := h.sp1
  have nT := least_needs_T h
  unfold S_most_years F_most_years
  refine ok_g nT.1 (ok_bnd (Nd t) nT.2 fun need hn => ?_)
  have n1 := hn.1
  have n2 := hn.2.1
  have rl := rngI_len 0 ((need.length : Int) - 1)
  have cT := least_cover_T h hn
  have e0 : (need.length : Int) - 1 = t.2.1 + 1 := by omega
  have ne : need ≠ [] := by intro q; rw [q] at n1; simp at n1; omega
  have lst : need.getLastD 0 = need.getD (t.2.1 + 1).toNat 0 := by
    rw [List.getLastD_eq_getLast?, List.getLast?_eq_getElem?, List.getD_eq_getElem?_getD]
    congr 2
    omega
  refine ok_g (r62_s (by omega) (by omega)) (ok_g (by rw [line_eq]; omega) (ok_g (fun k hk => ?_) (ok_bnd (fun p => p = (rngI 0 (t.2.1 + 1)).map fun k => ((need.getD ((k + 1)).toNat 0) - (need.getD (k).toNat 0))) (by rw [e0]) fun plan hplan => ok_g ne (ok_end cT.1 ?_))))
  · obtain ⟨a, b⟩ := rngI_mem.mp hk
    exact ⟨⟨by omega, by omega⟩, a, by omega⟩
  · have pl : (plan.length : Int) = t.2.1 + 1 := by rw [hplan, List.length_map, rngI_len]; omega
    refine ⟨⟨pl, fun x hx => ?_, fun q q0 q1 => ?_⟩, cT.2.1, ?_, ?_, cT.2.2.1, cT.2.2.2.2⟩
    · rw [hplan] at hx
      obtain ⟨k, hk, rfl⟩ := List.mem_map.mp hx
      obtain ⟨a, b⟩ := rngI_mem.mp hk
      have := nd_mono h hn a (by omega)
      omega
    · unfold Tot
      cases c : Wn t.2.1 q t.1 with
      | none => exact Lf_pos h q0 q1
      | some ab =>
        obtain ⟨a1, a2, a3⟩ := Wn_in h0 h.fit c
        simp only
        rw [hplan, plan_sum need (t.2.1 + 1) ab.1.toNat _ (by omega)]
        have := (hn.2.2 ab.2 (by omega) (by omega)).1 (q, ab) ⟨q0, q1, c⟩ (by simp only; omega) (by simp only; omega)
        simp only at this
        have e : ab.1.toNat + ((ab.2 + 1).toNat - ab.1.toNat) = (ab.2 + 1).toNat := by omega
        rw [e]
        have l : Lf t q = t.2.2.getD q.toNat 0 := rfl
        omega
    · have := plan_sum need (t.2.1 + 1) 0 plan.length (by omega)
      rw [← hplan, List.drop_zero, List.take_length] at this
      rw [this, n2, lst]
      have e : 0 + plan.length = (t.2.1 + 1).toNat := by omega
      rw [e]; omega
    · rw [cT.2.2.2.1, lst]
end Law
end
section
set_option Elab.async false
set_option linter.all false
set_option maxRecDepth 100000
set_option maxHeartbeats 2000000
open PySem PV
namespace Law
/-- the windows stand in the order of their pieces -/
theorem windows_ord {t : Trk} : List.Pairwise (fun x y : Int × Int × Int => x.1 < y.1) (F_windows t) := by
  have key : (fun (n : Int) (ws : List (Int × Int × Int)) => List.Pairwise (fun x y : Int × Int × Int => x.1 < y.1) ws ∧ ∀ x ∈ ws, x.1 < n) (t.2.2.length : Int) (F_windows t) := by
    unfold F_windows
    show (fun (n : Int) (ws : List (Int × Int × Int)) => List.Pairwise (fun x y : Int × Int × Int => x.1 < y.1) ws ∧ ∀ x ∈ ws, x.1 < n) (t.2.2.length : Int) (List.foldl _ [] _)
    refine fold_rng (fun n ws => List.Pairwise (fun x y : Int × Int × Int => x.1 < y.1) ws ∧ ∀ x ∈ ws, x.1 < n) ⟨List.Pairwise.nil, fun x hx => nomatch hx⟩ (by omega) ?_
    rintro k ws k0 k1 ⟨h1, h2⟩
    simp only [bnd]
    split
    · refine ⟨List.pairwise_append.mpr ⟨h1, List.pairwise_singleton _ _, fun x hx y hy => ?_⟩, fun x hx => ?_⟩
      · rw [List.mem_singleton] at hy
        rw [hy]; exact h2 x hx
      · rcases List.mem_append.mp hx with hx | hx
        · have := h2 x hx; omega
        · rw [List.mem_singleton] at hx; rw [hx]; simp only; omega
    · exact ⟨h1, fun x hx => by have := h2 x hx; omega⟩
  exact key.1
theorem find_least {α : Type} {l : List α} {p : α → Bool} {r : α → Int} (h : List.Pairwise (fun x y => r x < r y) l) {x : α} (hx : l.find? p = some x) : ∀ y ∈ l, p y = true → r x ≤ r y := by
  induction l with
  | nil => cases hx
  | cons z l ih =>
    rw [List.pairwise_cons] at h
    rw [List.find?_cons] at hx
    intro y hy hp
    cases c : p z with
    | true =>
      rw [c] at hx
      cases hx
      rcases List.mem_cons.mp hy with rfl | hy
      · exact Int.le_refl _
      · exact Int.le_of_lt (h.1 y hy)
    | false =>
      rw [c] at hx
      rcases List.mem_cons.mp hy with rfl | hy
      · rw [c] at hp; cases hp
      · exact ih h.2 hx y hy hp
/-- a piece at which the least cover may end -/
def Pq (t : Trk) (need : List Int) (k q : Int) : Prop := 0 ≤ q ∧ q < t.2.2.length ∧ ∃ ab, Wn t.2.1 q t.1 = some ab ∧ ab.1 ≤ k - 1 ∧ k - 1 ≤ ab.2 ∧ need.getD ab.1.toNat 0 + Lf t q = need.getD k.toNat 0
def Lq (t : Trk) (need : List Int) (k q : Int) : Prop := Pq t need k q ∧ ∀ r, Pq t need k r → q ≤ r
theorem Lq.one {t : Trk} {need : List Int} {k q r : Int} (a : Lq t need k q) (b : Lq t need k r) : q = r := by
  have := a.2 r b.1
  have := b.2 q a.1
  omega
theorem last_least {t : Trk} (h : TrOk t) {need : List Int} (hn : Nd t need) {k : Int} (k0 : 1 ≤ k) (k1 : k ≤ t.2.1 + 1) : ∃ q ab, F_last_of_cover t need k = some (q, ab) ∧ Lq t need k q ∧ ∃ b, Wn t.2.1 q t.1 = some (ab, b) := by
  obtain ⟨n1, n2, n3⟩ := hn
  have wT := windows_T h
  have hF : F_last_of_cover t need k = match (F_windows t).find? (fun x => (((decide (x.2.1 ≤ (k - 1))) && (decide ((k - 1) ≤ x.2.2))) && (decide (((need.getD (x.2.1).toNat 0) + (t.2.2.getD (x.1).toNat 0)) = (need.getD (k).toNat 0))))) with
    | some x => some (x.1, x.2.1)
    | none => none := by
    unfold F_last_of_cover
    rw [loopR_find (fun x : Int × Int × Int => (((decide (x.2.1 ≤ (k - 1))) && (decide ((k - 1) ≤ x.2.2))) && (decide (((need.getD (x.2.1).toNat 0) + (t.2.2.getD (x.1).toNat 0)) = (need.getD (k).toNat 0))))) (fun x => some (x.1, x.2.1)) (fun _ => rfl)]
    cases (F_windows t).find? (fun x => (((decide (x.2.1 ≤ (k - 1))) && (decide ((k - 1) ≤ x.2.2))) && (decide (((need.getD (x.2.1).toNat 0) + (t.2.2.getD (x.1).toNat 0)) = (need.getD (k).toNat 0))))) <;> rfl
  cases c : (F_windows t).find? (fun x => (((decide (x.2.1 ≤ (k - 1))) && (decide ((k - 1) ≤ x.2.2))) && (decide (((need.getD (x.2.1).toNat 0) + (t.2.2.getD (x.1).toNat 0)) = (need.getD (k).toNat 0))))) with
  | none =>
    obtain ⟨x, hx, hx1, hx2, hx3⟩ := (n3 (k - 1) (by omega) (by omega)).2
    have e : (k - 1 + 1) = k := by omega
    rw [e] at hx3
    have := List.find?_eq_none.mp c x ((wT.2.2 x).mpr hx)
    rw [Bool.and_eq_true, Bool.and_eq_true, decide_eq_true_eq, decide_eq_true_eq, decide_eq_true_eq] at this
    exact absurd ⟨⟨hx1, hx2⟩, hx3.symm⟩ this
  | some x =>
    have hp := List.find?_some c
    have hm := (wT.2.2 x).mp (List.mem_of_find?_eq_some c)
    rw [Bool.and_eq_true, Bool.and_eq_true, decide_eq_true_eq, decide_eq_true_eq, decide_eq_true_eq] at hp
    refine ⟨x.1, x.2.1, by rw [hF, c], ⟨⟨hm.1, hm.2.1, x.2, hm.2.2, hp.1.1, hp.1.2, hp.2⟩, fun r hr => ?_⟩, x.2.2, hm.2.2⟩
    obtain ⟨r0, r1, ab, r2, r3, r4, r5⟩ := hr
    exact find_least (r := fun x : Int × Int × Int => x.1) windows_ord c (r, ab) ((wT.2.2 (r, ab)).mpr ⟨r0, r1, r2⟩) (by
      rw [Bool.and_eq_true, Bool.and_eq_true, decide_eq_true_eq, decide_eq_true_eq, decide_eq_true_eq]
      exact ⟨⟨r3, r4⟩, r5⟩)
theorem nd_unique {t : Trk} (h : TrOk t) {n1 n2 : List Int} (a : Nd t n1) (b : Nd t n2) : n1 = n2 := by
  obtain ⟨a1, a2, a3⟩ := a
  obtain ⟨b1, b2, b3⟩ := b
  have key : ∀ k : Nat, (k : Int) ≤ t.2.1 + 1 → ∀ j, j ≤ k → n1.getD j 0 = n2.getD j 0 := by
    intro k
    induction k with
    | zero =>
      intro _ j hj
      have : j = 0 := by omega
      rw [this, a2, b2]
    | succ k ih =>
      intro hk j hj
      have ih := ih (by omega)
      by_cases c : j = k + 1
      · subst c
        obtain ⟨p1, x, p2, p3, p4, p5⟩ := a3 k (by omega) (by omega)
        obtain ⟨q1, y, q2, q3, q4, q5⟩ := b3 k (by omega) (by omega)
        have e : ((k : Int) + 1).toNat = k + 1 := by omega
        rw [e] at p1 p5 q1 q5
        obtain ⟨x1, x2, x3⟩ := Wn_in h.sp0 h.fit p2.2.2
        obtain ⟨y1, y2, y3⟩ := Wn_in h.sp0 h.fit q2.2.2
        have g1 := p1 y q2 q3 q4
        have g2 := q1 x p2 p3 p4
        have i1 := ih x.2.1.toNat (by omega)
        have i2 := ih y.2.1.toNat (by omega)
        omega
      · exact ih j (by omega)
  apply List.ext_getElem (by omega)
  intro i h1 h2
  have := key i (by omega) i (Nat.le_refl _)
  rwa [List.getD_eq_getElem?_getD, List.getD_eq_getElem?_getD, List.getElem?_eq_getElem h1, List.getElem?_eq_getElem h2, Option.getD_some, Option.getD_some] at this
/-! the trace of the cover, step by step -/
open Classical in
noncomputable def Gs (t : Trk) (need : List Int) (s : List Int × Int) : List Int × Int := if 0 < s.2 then (s.1 ++ [((F_last_of_cover t need s.2).getD (0, 0)).1], ((F_last_of_cover t need s.2).getD (0, 0)).2) else s
def itG {α : Type} (f : α → α) : Nat → α → α
  | 0, s => s
  | n + 1, s => itG f n (f s)
theorem itG_succ {α : Type} (f : α → α) : ∀ (n : Nat) (s : α), itG f (n + 1) s = f (itG f n s)
  | 0, _ => rfl
  | n + 1, s => by show itG f (n + 1) (f s) = _; rw [itG_succ f n]; rfl
section
variable {t : Trk} (h : TrOk t) {need : List Int} (hn : Nd t need)
include h hn
theorem Gs_dec {s : List Int × Int} (h0 : 0 < s.2) (h1 : s.2 ≤ t.2.1 + 1) : 0 ≤ (Gs t need s).2 ∧ (Gs t need s).2 < s.2 := by
  obtain ⟨q, a, e1, e2, b, e3⟩ := last_least h hn (k := s.2) (by omega) h1
  unfold Gs
  rw [if_pos h0, e1]
  simp only [Option.getD_some]
  obtain ⟨_, _, ab, g1, g2, _⟩ := e2.1
  rw [e3] at g1
  cases g1
  have := (Wn_in h.sp0 h.fit e3).1
  simp only at this g2
  omega
theorem Gs_stop {s : List Int × Int} (h0 : s.2 = 0) : Gs t need s = s := by
  unfold Gs
  rw [if_neg (by omega)]
theorem it_stop {s : List Int × Int} (h0 : s.2 = 0) : ∀ n, itG (Gs t need) n s = s
  | 0 => rfl
  | n + 1 => by show itG _ n (Gs t need s) = s; rw [Gs_stop h hn h0]; exact it_stop h0 n
theorem it_more : ∀ (n : Nat) {s : List Int × Int}, 0 ≤ s.2 → s.2 ≤ t.2.1 + 1 → s.2.toNat ≤ n → itG (Gs t need) n s = itG (Gs t need) s.2.toNat s
  | 0, s, h0, h1, h2 => by
    have : s.2.toNat = 0 := by omega
    rw [this]
  | n + 1, s, h0, h1, h2 => by
    by_cases c : s.2 = 0
    · rw [it_stop h hn c, it_stop h hn c]
    · obtain ⟨d0, d1⟩ := Gs_dec h hn (s := s) (by omega) h1
      have e : s.2.toNat = (s.2.toNat - 1) + 1 := by omega
      rw [e]
      show itG _ n (Gs t need s) = itG _ (s.2.toNat - 1) (Gs t need s)
      rw [it_more n d0 (by omega) (by omega), it_more (s.2.toNat - 1) d0 (by omega) (by omega)]
termination_by n => n
end
theorem least_cover_eq {t : Trk} (h : TrOk t) {need : List Int} (hn : Nd t need) : F_least_cover t need = (itG (Gs t need) (t.2.1 + 1).toNat ([], t.2.1 + 1)).1.mergeSort leI := by
  have h0 := h.sp0
  have h1 := h.sp1
  have n1 := hn.1
  have e0 : (need.length : Int) - 1 = t.2.1 + 1 := by omega
  unfold F_least_cover
  simp only [bnd]
  rw [e0]
  obtain ⟨_, s, g1, ⟨g2, g3, g4⟩, g5⟩ := wh_ok (St := fun _ => True) (Sb := fun _ => True) (t := fun (s : List Int × Int) => decide (0 < s.2)) (F := fun (s : List Int × Int) => (Stp.nx ((s.1 ++ [((F_last_of_cover t need s.2).getD (0, 0)).1]), ((F_last_of_cover t need s.2).getD (0, 0)).2) : Stp (List Int × Int) (List Int))) (n := 1000000000000) (s0 := ([], t.2.1 + 1)) (fun s => 0 ≤ s.2 ∧ s.2 ≤ t.2.1 + 1 ∧ itG (Gs t need) s.2.toNat s = itG (Gs t need) (t.2.1 + 1).toNat ([], t.2.1 + 1)) (fun s => s.2.toNat) ⟨by simp only; omega, Int.le_refl _, rfl⟩ (by simp only; omega) (by
    rintro s ⟨i1, i2, i3⟩
    refine ⟨trivial, fun ht => ⟨trivial, _, rfl, ?_⟩⟩
    have hp := of_decide_eq_true ht
    obtain ⟨d0, d1⟩ := Gs_dec h hn (s := s) hp i2
    have eg : Gs t need s = (s.1 ++ [((F_last_of_cover t need s.2).getD (0, 0)).1], ((F_last_of_cover t need s.2).getD (0, 0)).2) := by
      unfold Gs; rw [if_pos hp]
    rw [← eg]
    refine ⟨⟨d0, by omega, ?_⟩, by omega⟩
    rw [← i3, ← it_more h hn (s.2.toNat - 1) d0 (by omega) (by omega)]
    have e : s.2.toNat = (s.2.toNat - 1) + 1 := by omega
    rw [e]; rfl)
  have hz := of_decide_eq_false g5
  have ez : s.2.toNat = 0 := by omega
  rw [ez] at g4
  rw [g1]
  show s.1.mergeSort leI = _
  rw [← g4]; rfl
theorem nd_step {t : Trk} (h : TrOk t) {nd : List Int} {k mn : Int} (k0 : 0 ≤ k) (k1 : k < t.2.1 + 1) (hn : NdTo t nd k) (m1 : ∃ x, Wd t x ∧ x.2.1 ≤ k ∧ k ≤ x.2.2 ∧ mn = nd.getD x.2.1.toNat 0 + Lf t x.1) (m2 : ∀ x, Wd t x → x.2.1 ≤ k → k ≤ x.2.2 → mn ≤ nd.getD x.2.1.toNat 0 + Lf t x.1) : NdTo t (nd ++ [mn]) (k + 1) := by
  have h0 := h.sp0
  obtain ⟨n1, n2, n3⟩ := hn
  have old : ∀ j : Nat, j < nd.length → (nd ++ [mn]).getD j 0 = nd.getD j 0 := fun j hj => gd_app hj
  have new : (nd ++ [mn]).getD (k + 1).toNat 0 = mn := gd_snoc (by omega)
  refine ⟨by rw [List.length_append, List.length_singleton]; omega, by rw [old 0 (by omega)]; exact n2, fun j j0 j1 => ?_⟩
  by_cases c : j = k
  · subst c
    rw [new]
    constructor
    · intro x hx hx1 hx2
      obtain ⟨a1, a2, a3⟩ := Wn_in h0 h.fit hx.2.2
      rw [old _ (by omega)]
      exact m2 x hx hx1 hx2
    · obtain ⟨x, hx, g1, g2, hxe⟩ := m1
      obtain ⟨a1, a2, a3⟩ := Wn_in h0 h.fit hx.2.2
      refine ⟨x, hx, g1, g2, ?_⟩
      rw [old _ (by omega)]
      exact hxe
  · obtain ⟨g1, g2⟩ := n3 j j0 (by omega)
    rw [old _ (by omega)]
    constructor
    · intro x hx hx1 hx2
      obtain ⟨a1, a2, a3⟩ := Wn_in h0 h.fit hx.2.2
      rw [old _ (by omega)]
      exact g1 x hx hx1 hx2
    · obtain ⟨x, hx, hx1, hx2, hx3⟩ := g2
      obtain ⟨a1, a2, a3⟩ := Wn_in h0 h.fit hx.2.2
      refine ⟨x, hx, hx1, hx2, ?_⟩
      rw [old _ (by omega)]
      exact hx3
theorem paper_T {t : Trk} (h : TrOk t) : Ok (S_law_paper t) (F_law_paper t) fun p => p = F_most_years t := by
  have h0 := h.sp0
  have h1 := h.sp1
  have hb := h.big
  have rl := rngI_len 0 (t.2.2.length : Int)
  have rs := rngI_len 0 (t.2.1 + 1)
  have hW : ∀ q, F_law_window t q = Wn t.2.1 q t.1 := fun q => (law_window_T h q).2
  unfold S_law_paper F_law_paper
  simp only [hW]
  refine ok_g (r62_s (by omega) (by omega)) (ok_g (by rw [line_eq]; omega) (ok_g (fun q _ => (law_window_T h q).1) (ok_bnd (fun ws => ws = (rngI 0 (t.2.2.length : Int)).map fun q => Wn t.2.1 q t.1) rfl fun ws hws => ok_bnd (fun n => n = [0]) rfl fun nd0 hnd0 => ok_g (r62_s (by omega) (by omega)) ?_)))
  have wl : ws.length = t.2.2.length := by rw [hws, List.length_map, rl]; omega
  have wg : ∀ k : Int, 0 ≤ k → k < t.2.2.length → ws.getD k.toNat none = Wn t.2.1 k t.1 := fun k a b => by
    rw [hws, List.getD_eq_getElem?_getD, List.getElem?_map, rngI_get (by omega)]
    have : (0 : Int) + (k.toNat : Int) = k := by omega
    rw [this]; rfl
  refine ok_for (Nd t) (LpS_rng (fun k nd => NdTo t nd k) (by subst hnd0; exact ⟨rfl, rfl, fun k k0 k1 => by omega⟩) (by omega) ?_) fun need hn => ?_
  · rintro k nd k0 k1 hnd
    have n1 := hnd.1
    obtain ⟨x0, x1, x2, x3⟩ := has_window h k0 (by omega)
    have fin : ∀ sm : List Int, (∀ v, v ∈ sm ↔ ∃ x, Wd t x ∧ x.2.1 ≤ k ∧ k ≤ x.2.2 ∧ v = nd.getD x.2.1.toNat 0 + Lf t x.1) → sm ≠ [] ∧ NdTo t (nd ++ [minL sm]) (k + 1) := fun sm hsm => by
      have ne : sm ≠ [] := fun q => by
        have := (hsm _).mpr ⟨x0, x1, x2, x3, rfl⟩
        rw [q] at this; cases this
      obtain ⟨m1, m2⟩ := minL_ok ne
      exact ⟨ne, nd_step h k0 k1 hnd ((hsm _).mp m1) fun x hx a b => m2 _ ((hsm _).mpr ⟨x, hx, a, b, rfl⟩)⟩
    have inner := LpS_rng (S := fun (some_ : (List Int)) (piece2 : Int) => ixOk ws.length piece2
      ∧ ((ws.getD (piece2).toNat none).isSome = true → (ws.getD (piece2).toNat none).isSome = true)
      ∧ (((ws.getD (piece2).toNat none).isSome && ((decide (((ws.getD (piece2).toNat none).getD (0, 0)).1 ≤ k)) && (decide (k ≤ ((ws.getD (piece2).toNat none).getD (0, 0)).2)))) = true → (ws.getD (piece2).toNat none).isSome = true
      ∧ ixOk nd.length ((ws.getD (piece2).toNat none).getD (0, 0)).1
      ∧ ixOk t.2.2.length piece2
      ∧ some_.length < sizeLine)) (F := fun (some_ : (List Int)) (piece2 : Int) =>
        (if ((ws.getD (piece2).toNat none).isSome && ((decide (((ws.getD (piece2).toNat none).getD (0, 0)).1 ≤ k)) && (decide (k ≤ ((ws.getD (piece2).toNat none).getD (0, 0)).2)))) = true then (some_ ++ [((nd.getD (((ws.getD (piece2).toNat none).getD (0, 0)).1).toNat 0) + (t.2.2.getD (piece2).toNat 0))])
        else some_)) (n := (t.2.2.length : Int)) (s0 := []) (fun j sm => (∀ v, v ∈ sm ↔ ∃ x, Wd t x ∧ x.1 < j ∧ x.2.1 ≤ k ∧ k ≤ x.2.2 ∧ v = nd.getD x.2.1.toNat 0 + Lf t x.1) ∧ (sm.length : Int) ≤ j) ⟨fun v => ⟨(fun hv => nomatch hv), fun ⟨x, a, b, _⟩ => by have := a.1; omega⟩, Int.le_refl _⟩ (by omega) (by
      rintro j sm j0 j1 ⟨i1, i2⟩
      rw [wg j j0 j1]
      cases c : Wn t.2.1 j t.1 with
      | none =>
        refine ⟨⟨⟨j0, by omega⟩, fun q => q, fun q => nomatch q⟩, ?_⟩
        rw [if_neg (by simp)]
        refine ⟨fun v => (i1 v).trans ⟨fun ⟨x, a, b, d⟩ => ⟨x, a, by omega, d⟩, fun ⟨x, a, b, d⟩ => ⟨x, a, ?_, d⟩⟩, by omega⟩
        by_cases e : x.1 = j
        · have := a.2.2
          rw [e, c] at this; cases this
        · omega
      | some ab =>
        obtain ⟨a1, a2, a3⟩ := Wn_in h0 h.fit c
        by_cases d : ab.1 ≤ k ∧ k ≤ ab.2
        · refine ⟨⟨⟨j0, by omega⟩, fun q => q, fun q => ⟨rfl, ⟨a1, by simp only [Option.getD_some]; omega⟩, ⟨j0, j1⟩, by rw [line_eq]; omega⟩⟩, ?_⟩
          rw [if_pos (by simp; omega)]
          simp only [Option.getD_some]
          refine ⟨fun v => ?_, by rw [List.length_append, List.length_singleton]; omega⟩
          rw [List.mem_append, List.mem_singleton, i1 v]
          constructor
          · rintro (⟨x, a, b, g⟩ | e)
            · exact ⟨x, a, by omega, g⟩
            · exact ⟨(j, ab), ⟨j0, j1, c⟩, by simp only; omega, d.1, d.2, e⟩
          · rintro ⟨x, a, b, g⟩
            by_cases e : x.1 = j
            · right
              have g2 := a.2.2
              rw [e, c] at g2
              cases g2
              have g3 := g.2.2
              rw [e] at g3
              exact g3
            · left; exact ⟨x, a, by omega, g⟩
        · refine ⟨⟨⟨j0, by omega⟩, fun q => q, fun q => ⟨rfl, ⟨a1, by simp only [Option.getD_some]; simp at q; omega⟩, ⟨j0, j1⟩, by rw [line_eq]; omega⟩⟩, ?_⟩
          rw [if_neg (by simp; omega)]
          refine ⟨fun v => (i1 v).trans ⟨fun ⟨x, a, b, g⟩ => ⟨x, a, by omega, g⟩, fun ⟨x, a, b, g⟩ => ⟨x, a, ?_, g⟩⟩, by omega⟩
          by_cases e : x.1 = j
          · have g2 := a.2.2
            rw [e, c] at g2
            cases g2
            exact absurd ⟨g.1, g.2.1⟩ d
          · omega)
    have sm := fin _ (fun v => (inner.2.1 v).trans ⟨fun ⟨x, a, b, g⟩ => ⟨x, a, g⟩, fun ⟨x, a, g⟩ => ⟨x, a, a.2.1, g⟩⟩)
    exact ⟨⟨inner.1, sm.1, by rw [line_eq]; omega⟩, sm.2⟩
  have n1 := hn.1
  refine ok_bnd (fun k => k = t.2.1 + 1) rfl fun k2 hk2 => ok_for (fun s : Int × List Int => s.2 = (itG (Gs t need) (t.2.1 + 1).toNat ([], t.2.1 + 1)).1) (And.imp_right (fun g => by
      have := congrArg Prod.fst g.1
      exact this) (LpS_rng (fun j (s : Int × List Int) => (s.2, s.1) = itG (Gs t need) j.toNat ([], t.2.1 + 1) ∧ 0 ≤ s.1 ∧ s.1 ≤ t.2.1 + 1 ∧ (s.2.length : Int) ≤ j) ⟨by rw [hk2]; rfl, by simp only; omega, by simp only; omega, Int.le_refl _⟩ (by omega) ?_)) fun s hs => ?_
  · rintro j ⟨k, fd⟩ j0 j1 ⟨i1, i2, i3, i4⟩
    simp only at i1 i2 i3 i4 ⊢
    have inner := LpS_rng (S := fun (chosen : (Option Int)) (piece3 : Int) => ((decide (0 < k)) = true → (chosen.isNone = true → ixOk ws.length piece3
        ∧ ((ws.getD (piece3).toNat none).isSome = true → (ws.getD (piece3).toNat none).isSome = true)))
        ∧ (((decide (0 < k)) && (chosen.isNone && ((ws.getD (piece3).toNat none).isSome && ((decide (((ws.getD (piece3).toNat none).getD (0, 0)).1 < k)) && (decide ((k - 1) ≤ ((ws.getD (piece3).toNat none).getD (0, 0)).2)))))) = true → ixOk ws.length piece3
        ∧ (ws.getD (piece3).toNat none).isSome = true
        ∧ ixOk need.length ((ws.getD (piece3).toNat none).getD (0, 0)).1
        ∧ ixOk t.2.2.length piece3
        ∧ ixOk need.length k)) (F := fun (chosen : (Option Int)) (piece3 : Int) =>
        (if ((decide (0 < k)) && (chosen.isNone && ((ws.getD (piece3).toNat none).isSome && ((decide (((ws.getD (piece3).toNat none).getD (0, 0)).1 < k)) && (decide ((k - 1) ≤ ((ws.getD (piece3).toNat none).getD (0, 0)).2)))))) = true then (if (decide (((need.getD (((ws.getD (piece3).toNat none).getD (0, 0)).1).toNat 0) + (t.2.2.getD (piece3).toNat 0)) = (need.getD (k).toNat 0))) = true then (some piece3)
        else chosen)
        else chosen)) (n := (t.2.2.length : Int)) (s0 := none) (fun m ch => (¬ 0 < k → ch = none) ∧ (0 < k → match ch with
          | none => ∀ r, Pq t need k r → m ≤ r
          | some q => Lq t need k q)) ⟨fun _ => rfl, fun _ r hr => hr.1⟩ (by omega) (by
      rintro m ch m0 m1 ⟨g1, g2⟩
      rw [wg m m0 m1]
      by_cases kp : 0 < k
      · have g2 := g2 kp
        cases ch with
        | some q =>
          refine ⟨⟨fun _ z => (nomatch z), fun z => by simp at z⟩, ?_⟩
          rw [if_neg (by simp)]
          exact ⟨fun z => absurd kp z, fun _ => g2⟩
        | none =>
          simp only at g2
          cases c : Wn t.2.1 m t.1 with
          | none =>
            refine ⟨⟨fun _ _ => ⟨⟨m0, by omega⟩, fun z => z⟩, fun z => by simp at z⟩, ?_⟩
            rw [if_neg (by simp)]
            refine ⟨fun _ => rfl, fun _ r hr => ?_⟩
            have := g2 r hr
            by_cases e : r = m
            · obtain ⟨_, _, ab, w, _⟩ := hr
              rw [e, c] at w; cases w
            · omega
          | some ab =>
            obtain ⟨a1, a2, a3⟩ := Wn_in h0 h.fit c
            refine ⟨⟨fun _ _ => ⟨⟨m0, by omega⟩, fun z => z⟩, fun z => ⟨⟨m0, by omega⟩, rfl, ⟨a1, by simp only [Option.getD_some]; simp at z; omega⟩, ⟨m0, m1⟩, by omega, by omega⟩⟩, ?_⟩
            simp only [Option.getD_some, Option.isSome_some, Option.isNone_none, Bool.true_and]
            by_cases d : ab.1 < k ∧ k - 1 ≤ ab.2
            · rw [if_pos (by simp; omega)]
              by_cases f : need.getD ab.1.toNat 0 + t.2.2.getD m.toNat 0 = need.getD k.toNat 0
              · rw [if_pos (decide_eq_true f)]
                exact ⟨fun z => absurd kp z, fun _ => ⟨⟨m0, m1, ab, c, by omega, d.2, f⟩, g2⟩⟩
              · rw [if_neg (by rw [decide_eq_true_eq]; exact f)]
                refine ⟨fun _ => rfl, fun _ r hr => ?_⟩
                have := g2 r hr
                by_cases e : r = m
                · obtain ⟨_, _, ab', w, _, _, w2⟩ := hr
                  rw [e] at w w2
                  rw [c] at w
                  cases w
                  exact absurd w2 f
                · omega
            · rw [if_neg (by simp; omega)]
              refine ⟨fun _ => rfl, fun _ r hr => ?_⟩
              have := g2 r hr
              by_cases e : r = m
              · obtain ⟨_, _, ab', w, w1, w2, _⟩ := hr
                rw [e, c] at w
                cases w
                exact absurd ⟨by omega, w2⟩ d
              · omega
      · have e := g1 kp
        subst e
        refine ⟨⟨fun z => absurd (of_decide_eq_true z) kp, fun z => by simp [kp] at z⟩, ?_⟩
        rw [if_neg (by simp [kp])]
        exact ⟨fun _ => rfl, fun z => absurd z kp⟩)
    obtain ⟨sL, f1, f2⟩ := inner
    have ei : (j + 1).toNat = j.toNat + 1 := by omega
    by_cases kp : 0 < k
    · obtain ⟨q, a, e1, e2, b, e3⟩ := last_least h hn (k := k) (by omega) i3
      have f2 := f2 kp
      have ex : ∃ ch, List.foldl (fun (chosen : (Option Int)) (piece3 : Int) =>
        (if ((decide (0 < k)) && (chosen.isNone && ((ws.getD (piece3).toNat none).isSome && ((decide (((ws.getD (piece3).toNat none).getD (0, 0)).1 < k)) && (decide ((k - 1) ≤ ((ws.getD (piece3).toNat none).getD (0, 0)).2)))))) = true then (if (decide (((need.getD (((ws.getD (piece3).toNat none).getD (0, 0)).1).toNat 0) + (t.2.2.getD (piece3).toNat 0)) = (need.getD (k).toNat 0))) = true then (some piece3)
        else chosen)
        else chosen)) none (rngI 0 (t.2.2.length : Int)) = ch := ⟨_, rfl⟩
      obtain ⟨ch, hch⟩ := ex
      rw [hch] at f2
      have hq : ch = some q := by
        cases ch with
        | none => have := f2 q e2.1; have := e2.1.2.1; omega
        | some r => rw [Lq.one f2 e2]
      subst hq
      have wq := wg q e2.1.1 e2.1.2.1
      have wi := Wn_in h0 h.fit e3
      refine ⟨⟨sL, ?_⟩, ?_⟩
      · rw [hch]
        exact fun _ => ⟨rfl, by rw [line_eq]; omega, ⟨e2.1.1, by simp only [Option.getD_some]; have := e2.1.2.1; omega⟩, by simp only [Option.getD_some]; rw [wq, e3]; rfl⟩
      · simp only [bnd, hch, Option.isSome_some, if_true, Option.getD_some]
        rw [wq, e3]
        simp only [Option.getD_some]
        obtain ⟨_, _, ab, w1, w2, w3, _⟩ := e2.1
        rw [e3] at w1
        cases w1
        simp only at w2 w3 wi
        refine ⟨?_, wi.1, by omega, by rw [List.length_append, List.length_singleton]; omega⟩
        rw [ei, itG_succ, ← i1]
        unfold Gs
        rw [if_pos kp]
        simp only [e1, Option.getD_some]
    · have f1 := f1 kp
      refine ⟨⟨sL, ?_⟩, ?_⟩
      · rw [f1]
        exact fun z => nomatch z
      · simp only [bnd, f1, Option.isSome_none, Bool.false_eq_true, if_false]
        refine ⟨?_, i2, i3, by omega⟩
        rw [ei, itG_succ, ← i1, Gs_stop h hn (by simp only; omega)]
  · refine ok_g ⟨by omega, by omega⟩ (ok_g (by rw [line_eq]; omega) (ok_end (fun k hk => ?_) ?_))
    · obtain ⟨a, b⟩ := rngI_mem.mp hk
      exact ⟨⟨by omega, by omega⟩, a, by omega⟩
    · have eN := nd_unique h (least_needs_T h).2 hn
      have ne : need ≠ [] := by intro q; rw [q] at n1; simp at n1; omega
      have lst : need.getLastD 0 = need.getD (t.2.1 + 1).toNat 0 := by
        rw [List.getLastD_eq_getLast?, List.getLast?_eq_getElem?, List.getD_eq_getElem?_getD]
        congr 2
        omega
      have e0 : (need.length : Int) - 1 = t.2.1 + 1 := by omega
      unfold F_most_years
      simp only [bnd]
      rw [eN, lst, e0, least_cover_eq h hn, ← hs]
/-! plans against covers -/
theorem sum_step {α : Type} {f g : α → Int} {v : Int} : ∀ {l : List α}, (∀ x ∈ l, f x ≤ g x) → (∃ x ∈ l, f x + v ≤ g x) → (l.map f).sum + v ≤ (l.map g).sum
  | [], _, h => by obtain ⟨x, hx, _⟩ := h; cases hx
  | y :: l, h1, h2 => by
    rw [List.map_cons, List.map_cons, List.sum_cons, List.sum_cons]
    have hy := h1 y (List.mem_cons_self ..)
    obtain ⟨x, hx, hv⟩ := h2
    have le : ∀ (l : List α), (∀ x ∈ l, f x ≤ g x) → (l.map f).sum ≤ (l.map g).sum := by
      intro l
      induction l with
      | nil => intro _; exact Int.le_refl _
      | cons z l ih =>
        intro hl
        rw [List.map_cons, List.map_cons, List.sum_cons, List.sum_cons]
        have := hl z (List.mem_cons_self ..)
        have := ih fun w hw => hl w (List.mem_cons_of_mem _ hw)
        omega
    rcases List.mem_cons.mp hx with rfl | hx
    · have := le l fun w hw => h1 w (List.mem_cons_of_mem _ hw)
      omega
    · have := sum_step (l := l) (v := v) (fun w hw => h1 w (List.mem_cons_of_mem _ hw)) ⟨x, hx, hv⟩
      omega
theorem sum_le {α : Type} {f g : α → Int} : ∀ {l : List α}, (∀ x ∈ l, f x ≤ g x) → (l.map f).sum ≤ (l.map g).sum
  | [], _ => Int.le_refl _
  | z :: l, hl => by
    rw [List.map_cons, List.map_cons, List.sum_cons, List.sum_cons]
    have := hl z (List.mem_cons_self ..)
    have := sum_le (l := l) fun w hw => hl w (List.mem_cons_of_mem _ hw)
    omega
theorem gd_nonneg {l : List Int} (h : ∀ x ∈ l, 0 ≤ x) (i : Nat) : 0 ≤ l.getD i 0 := by
  by_cases c : i < l.length
  · exact h _ (gd_mem c)
  · rw [List.getD_eq_getElem?_getD, List.getElem?_eq_none (by omega)]; exact Int.le_refl _
theorem weak {t : Trk} (h : TrOk t) {plan cover : List Int} (hp : PH t plan) (hc : CV t cover) : plan.sum ≤ (cover.map (Lf t)).sum := by
  have h0 := h.sp0
  obtain ⟨p1, p2, p3⟩ := hp
  have key : ∀ k : Nat, (k : Int) ≤ t.2.1 + 1 → (plan.take k).sum ≤ (cover.map fun q => match Wn t.2.1 q t.1 with
    | some ab => ((plan.drop ab.1.toNat).take ((min (ab.2 + 1) k).toNat - ab.1.toNat)).sum
    | none => 0).sum := by
    intro k
    induction k with
    | zero =>
      intro _
      have : (cover.map fun q => match Wn t.2.1 q t.1 with
        | some ab => ((plan.drop ab.1.toNat).take ((min (ab.2 + 1) ((0 : Nat) : Int)).toNat - ab.1.toNat)).sum
        | none => 0) = cover.map fun _ => (0 : Int) := List.map_congr_left fun q _ => by
          cases c : Wn t.2.1 q t.1 with
          | none => rfl
          | some ab =>
            obtain ⟨a1, a2, a3⟩ := Wn_in h0 h.fit c
            have e : (min (ab.2 + 1) ((0 : Nat) : Int)).toNat - ab.1.toNat = 0 := by omega
            simp only [e, List.take_zero, List.sum_nil]
      rw [this]
      have z : ∀ l : List Int, (l.map fun _ => (0 : Int)).sum = 0 := by
        intro l
        induction l with
        | nil => rfl
        | cons x l ih => rw [List.map_cons, List.sum_cons, ih]; rfl
      rw [z]
      simp
    | succ k ih =>
      intro hk
      have ih := ih (by omega)
      rw [take_succ_sum]
      refine Int.le_trans (Int.add_le_add_right ih _) (sum_step (fun q hq => ?_) ?_)
      · cases c : Wn t.2.1 q t.1 with
        | none => exact Int.le_refl _
        | some ab =>
          obtain ⟨a1, a2, a3⟩ := Wn_in h0 h.fit c
          simp only
          by_cases d : ab.1 ≤ k ∧ k ≤ ab.2
          · have e : (min (ab.2 + 1) ((k + 1 : Nat) : Int)).toNat - ab.1.toNat = ((min (ab.2 + 1) (k : Int)).toNat - ab.1.toNat) + 1 := by omega
            rw [e, take_succ_sum, getD_drop]
            have := gd_nonneg p2 (ab.1.toNat + ((min (ab.2 + 1) (k : Int)).toNat - ab.1.toNat))
            omega
          · have e : (min (ab.2 + 1) ((k + 1 : Nat) : Int)).toNat - ab.1.toNat = ((min (ab.2 + 1) (k : Int)).toNat - ab.1.toNat) := by omega
            rw [e]; exact Int.le_refl _
      · obtain ⟨q, hq, d1, d2⟩ := hc.2.2.2 (k : Int) (by omega) (by omega)
        have hs := hc.2.2.1 q hq
        refine ⟨q, hq, ?_⟩
        cases c : Wn t.2.1 q t.1 with
        | none => rw [c] at hs; cases hs
        | some ab =>
          rw [c] at d1 d2
          simp only [Option.getD_some] at d1 d2
          obtain ⟨a1, a2, a3⟩ := Wn_in h0 h.fit c
          simp only
          have e : (min (ab.2 + 1) ((k + 1 : Nat) : Int)).toNat - ab.1.toNat = ((min (ab.2 + 1) (k : Int)).toNat - ab.1.toNat) + 1 := by omega
          rw [e, take_succ_sum, getD_drop]
          have e2 : ab.1.toNat + ((min (ab.2 + 1) (k : Int)).toNat - ab.1.toNat) = k := by omega
          rw [e2]; exact Int.le_refl _
  have kk := key plan.length (by omega)
  rw [List.take_length] at kk
  refine Int.le_trans kk (sum_le fun q hq => ?_)
  have hr := hc.1 q hq
  have := p3 q hr.1 hr.2
  unfold Tot at this
  cases c : Wn t.2.1 q t.1 with
  | none => exact Lf_pos h hr.1 hr.2
  | some ab =>
    obtain ⟨a1, a2, a3⟩ := Wn_in h0 h.fit c
    rw [c] at this
    simp only at this ⊢
    have e : min (ab.2 + 1) (plan.length : Int) = ab.2 + 1 := by omega
    rw [e]
    exact this
/-- the same track with other years -/
theorem TrOk.lefts {t : Trk} (h : TrOk t) {l : List Int} (hl : l.length = t.2.2.length) (hp : ∀ x ∈ l, 0 ≤ x) : TrOk (t.1, t.2.1, l) :=
  ⟨h.sp0, h.sp1, h.ne, h.ln, by show Fit t.2.1 0 t.1 l.length; rw [hl]; exact h.fit, hp, by show l.length ≤ 10000; rw [hl]; exact h.big⟩
theorem CV.lefts {t : Trk} {l c : List Int} (hl : l.length = t.2.2.length) (h : CV t c) : CV (t.1, t.2.1, l) c :=
  ⟨by show ∀ x ∈ c, 0 ≤ x ∧ x < (l.length : Int); rw [hl]; exact h.1, h.2.1, h.2.2.1, h.2.2.2⟩
theorem CV.back {t : Trk} {l c : List Int} (hl : l.length = t.2.2.length) (h : CV (t.1, t.2.1, l) c) : CV t c :=
  ⟨by have := h.1; change ∀ x ∈ c, 0 ≤ x ∧ x < (l.length : Int) at this; rw [hl] at this; exact this, h.2.1, h.2.2.1, h.2.2.2⟩
theorem PH.lefts {t : Trk} {l p : List Int} (hl : l.length = t.2.2.length) (hle : ∀ q : Int, 0 ≤ q → q < t.2.2.length → t.2.2.getD q.toNat 0 ≤ l.getD q.toNat 0) (h : PH t p) : PH (t.1, t.2.1, l) p :=
  ⟨h.1, h.2.1, fun q q0 q1 => by
    have q1' : q < (t.2.2.length : Int) := by rw [← hl]; exact q1
    exact Int.le_trans (h.2.2 q q0 q1') (hle q q0 q1')⟩
theorem set_parts (l : List Int) {i : Int} (h0 : 0 ≤ i) (h1 : i < l.length) (v : Int) : ((l.drop 0).take (i.toNat - 0) ++ [v]) ++ l.drop (i + 1).toNat = l.set i.toNat v := by
  have e : (i + 1).toNat = i.toNat + 1 := by omega
  rw [e, List.drop_zero, Nat.sub_zero, List.append_assoc, List.set_eq_take_append_cons_drop, if_pos (by omega)]; rfl
theorem gd_set (l : List Int) {i : Nat} (h : i < l.length) (v : Int) (j : Nat) : (l.set i v).getD j 0 = if j = i then v else l.getD j 0 := by
  rw [List.getD_eq_getElem?_getD, List.getD_eq_getElem?_getD, List.getElem?_set]
  by_cases c : i = j
  · subst c; simp [h]
  · rw [if_neg c, if_neg (fun q => c q.symm)]
theorem sum_one {l : List Int} (hn : l.Nodup) (p : Int) : (l.map fun x => if x = p then (1 : Int) else 0).sum ≤ 1 := by
  induction l with
  | nil => simp
  | cons x l ih =>
    rw [List.nodup_cons] at hn
    rw [List.map_cons, List.sum_cons]
    by_cases c : x = p
    · have : (l.map fun x => if x = p then (1 : Int) else 0) = l.map fun _ => (0 : Int) := List.map_congr_left fun y hy => if_neg fun q => hn.1 (by rw [c, ← q]; exact hy)
      have z : ∀ l : List Int, (l.map fun _ => (0 : Int)).sum = 0 := by
        intro l
        induction l with
        | nil => rfl
        | cons x l ih => rw [List.map_cons, List.sum_cons, ih]; rfl
      rw [this, z, if_pos c]; decide
    · have := ih hn.2
      rw [if_neg c]; omega
theorem sum_add {α : Type} (f g : α → Int) : ∀ l : List α, (l.map fun x => f x + g x).sum = (l.map f).sum + (l.map g).sum
  | [] => rfl
  | x :: l => by rw [List.map_cons, List.map_cons, List.map_cons, List.sum_cons, List.sum_cons, List.sum_cons, sum_add f g l]; omega
theorem most_full {t : Trk} (h : TrOk t) : S_most_years t ∧ PH t (F_most_years t).2.1 ∧ CV t (F_most_years t).2.2 ∧ (F_most_years t).2.1.sum = (F_most_years t).1 ∧ ((F_most_years t).2.2.map (Lf t)).sum = (F_most_years t).1 ∧ (F_most_years t).2.2.length ≤ 61 ∧ (F_most_years t).2.2.Nodup := most_T h
/-- a year more for one piece -/
theorem more_years {t : Trk} (h : TrOk t) {p : Int} (p0 : 0 ≤ p) (p1 : p < t.2.2.length) : (F_most_years t).1 ≤ (F_most_years (t.1, t.2.1, t.2.2.set p.toNat (t.2.2.getD p.toNat 0 + 1))).1 ∧ (F_most_years (t.1, t.2.1, t.2.2.set p.toNat (t.2.2.getD p.toNat 0 + 1))).1 ≤ (F_most_years t).1 + 1 := by
  have hl : (t.2.2.set p.toNat (t.2.2.getD p.toNat 0 + 1)).length = t.2.2.length := List.length_set
  have hg : ∀ q : Int, 0 ≤ q → q < t.2.2.length → (t.2.2.set p.toNat (t.2.2.getD p.toNat 0 + 1)).getD q.toNat 0 = t.2.2.getD q.toNat 0 + if q = p then 1 else 0 := fun q q0 q1 => by
    rw [gd_set _ (by omega)]
    by_cases c : q = p
    · subst c; simp
    · rw [if_neg (by omega), if_neg c]; omega
  have hp0 := Lf_pos h p0 p1
  have ht' : TrOk (t.1, t.2.1, t.2.2.set p.toNat (t.2.2.getD p.toNat 0 + 1)) := h.lefts hl fun x hx => by
    rcases List.mem_or_eq_of_mem_set hx with hx | hx
    · exact h.lf x hx
    · have : Lf t p = t.2.2.getD p.toNat 0 := rfl
      omega
  obtain ⟨_, a1, a2, a3, a4, a5, a6⟩ := most_full h
  obtain ⟨_, b1, b2, b3, b4, b5, b6⟩ := most_full ht'
  constructor
  · have := weak ht' (PH.lefts hl (fun q q0 q1 => by rw [hg q q0 q1]; split <;> omega) a1) b2
    omega
  · have := weak ht' b1 (CV.lefts hl a2)
    have e : ((F_most_years t).2.2.map (Lf (t.1, t.2.1, t.2.2.set p.toNat (t.2.2.getD p.toNat 0 + 1)))).sum = ((F_most_years t).2.2.map (Lf t)).sum + ((F_most_years t).2.2.map fun x => if x = p then (1 : Int) else 0).sum := by
      rw [← sum_add]
      exact congrArg List.sum (List.map_congr_left fun q hq => hg q (a2.1 q hq).1 (a2.1 q hq).2)
    have := sum_one a6 p
    omega
noncomputable def vl (t : Trk) (plan : List Int) : Int := plan.sum * (if F_law_plan_holds t plan = true then 1 else 0)
noncomputable def Bst (t : Trk) : Nat → List Int → Int
  | 0, plan => vl t plan
  | r + 1, plan => maxL [Bst t r (plan ++ [0]), Bst t r (plan ++ [1]), Bst t r (plan ++ [2]), Bst t r (plan ++ [3])]
theorem best_eval {t : Trk} (h : TrOk t) : ∀ (r n : Nat) (plan : List Int), r < n → ((plan.length + r : Nat) : Int) = t.2.1 + 1 → m_law_best n [enc3 (encL (enc2 PyData.int PyData.int)) PyData.int (encL PyData.int) t, encL PyData.int plan] = .ok (.int (Bst t r plan))
  | _, 0, _, hr, _ => absurd hr (Nat.not_lt_zero _)
  | 0, n + 1, plan, _, hp => by
    have h1 := h.sp1
    have sT := (law_plan_T h plan (by omega)).1
    have hT := T_law_plan_holds t plan sT
    have c : (plan.length : Int) = t.2.1 + 1 := by omega
    unfold m_law_best
    rw [fn_go (n := 2) rfl]
    unfold b_law_best
    change bodyOut (sThen _ _ [some (.val (.tuple [.list (t.1.map (enc2 PyData.int PyData.int)), .int t.2.1, .list (t.2.2.map .int)])), some (.val (.list (plan.map .int))), none, none, none, none]) = _
    have hT' : m_law_plan_holds [.tuple [.list (t.1.map (enc2 PyData.int PyData.int)), .int t.2.1, .list (t.2.2.map .int)], .list (plan.map .int)] = .ok (.bool (F_law_plan_holds t plan)) := hT
    have m1 : mulOk plan.sum (if F_law_plan_holds t plan = true then 1 else 0) := by split <;> exact mulOk_r (by decide) (by decide)
    simp (disch := omega) only [c, hT', m1, bind_ok, bind_bad, bind_exc, at_ok, at_exc, ofO_some, oS_some, nox_okk, g_v, g_s, go_v, go_s, ga_v, ga_o, ga_s, s_z, s_s, fz_o, fz_v, fz_s, e_mGet, e_mC, e_m2, e_m1, e_mT, e_mB, e_mAndB, e_mOrB, e_mNotB, e_mAnd, e_mOr, e_mIf, e_mChain, e_mNil, e_mCons, e_mSeq, e_mCall, e_mNo, e_mPart, e_mCut, e_mIs, e_mIs2, e_mL, e_mDsp, e_mRep, e_mBind, e_mIxO, e_mBor, e_mBorB, e_mItems, e_mWk, e_mRev, e_mYes, e_mLc, e_gN, e_gE, e_gC, e_gTt, e_gTl, e_sNx, e_sThen, e_sDrop, e_sRet, e_sSet, e_sIf, e_sFor, e_sAsg, e_sPar, e_sSetO, e_sSetL, e_ownAt, e_freeze, e_sApp, e_sSetIx, e_sAugIx, e_sAug, e_sPop, e_sPopTo, e_fnM, e_bo_rt, e_bo_nx, e_bo_exc, e_startE, e_wipe0, e_wipe1, d_add, d_addib, d_addl, d_addt, d_sub, d_mul, d_div, d_mod, d_pow, d_cmp, d_neg, d_not, d_iadd, d_iop, d_toB, d_toI, d_trB, d_trI, d_trN, d_trL, d_trT, d_lenL, d_lenT, d_intI, d_intB, d_abs, d_gcd, d_max2, d_min2, d_sumI, d_anyB, d_allB, d_maxL, d_minL, d_listL, d_listT, d_tupL, d_tupT, d_idxL, d_idxT, d_lstL, d_lstT, d_revL, d_itL, d_itT, d_rng1, d_rng2, d_enum1, d_zip2, d_rev1L, d_rev1T, d_cutL, d_cutT, d_rep, d_mTup, d_mLst, d_setD, d_scN, d_scB, d_scI, d_scS, d_isN, d_isNN, d_isB, d_isNB, d_nN, d_nB, d_nI, d_nS, d_nL, d_nT, if_true, if_false, ite_true, ite_false, reduceIte, List.length_cons, List.length_nil, Nat.zero_add, Nat.reduceAdd, Nat.reduceSub, Nat.reduceEqDiff, List.map_cons, List.map_nil, List.cons_append, List.nil_append, List.replicate, Option.map_some, Option.bind_some, Option.some.injEq, Bool.not_true, Bool.not_false, ne_eq, Bool.false_eq_true, Int.reduceEq, Int.reduceLT, Int.reduceLE, Int.reduceNeg, Int.reduceAdd, Int.reduceSub, Int.reduceMul, Int.reduceToNat, Int.toNat_natCast, Nat.reduceLT, Nat.reduceLeDiff, not_false_eq_true, not_true_eq_false, decide_true, decide_false, List.length_map, List.map_append, fmod_pos, fdiv_pos, and_true, true_and, and_self, Bool.and_true, Bool.or_false, Bool.and_false, Bool.or_true, Bool.true_and, Bool.false_and, ty_li_none, ty_li_bool, ty_li_int, ty_li_str, ty_li_list, ty_li_tuple, ty_tu_none, ty_tu_bool, ty_tu_int, ty_tu_str, ty_tu_list, ty_tu_tuple, ty_bo_none, ty_bo_bool, ty_bo_int, ty_bo_str, ty_bo_list, ty_bo_tuple, ty_in_none, ty_in_bool, ty_in_int, ty_in_str, ty_in_list, ty_in_tuple, ty_st_none, ty_st_bool, ty_st_int, ty_st_str, ty_st_list, ty_st_tuple, eq_int, ne_int, eq_bl, ne_bl, eq_st, ne_st, eq_li, ne_li, at_0, at_1, at_2, at_3, at_4, at_5, in_li, notin_li, c_z, c_s, gx_v, gx_s, e_mIsX, e_sTry, tc_ok, tc_exc, cm_nil, cm_cons, ex_ok, dx_nil, dx_v, dx_o, dx_x, dx_n, at_exx, Int.cast_ofNat_Int, e_mLrg1, e_mLrg2, d_lrg]
    rfl
  | r + 1, n + 1, plan, hr, hp => by
    have h1 := h.sp1
    have c : ¬ ((plan.length : Int) = t.2.1 + 1) := by omega
    have r4 : r62 4 := by decide
    have l4 : (rangeL 0 4).length ≤ sizeLine := by rw [rangeL_len, line_eq]; omega
    have l1 : plan.length + 1 ≤ sizeLine := by rw [line_eq]; omega
    have l0 : 1 ≤ sizeLine := by rw [line_eq]; omega
    unfold m_law_best
    rw [fn_go (n := 2) rfl]
    unfold b_law_best
    change bodyOut (sThen _ _ [some (.val (.tuple [.list (t.1.map (enc2 PyData.int PyData.int)), .int t.2.1, .list (t.2.2.map .int)])), some (.val (.list (plan.map .int))), none, none, none, none]) = _
    simp (disch := omega) only [c, r4, l4, bind_ok, bind_bad, bind_exc, at_ok, at_exc, ofO_some, oS_some, nox_okk, g_v, g_s, go_v, go_s, ga_v, ga_o, ga_s, s_z, s_s, fz_o, fz_v, fz_s, e_mGet, e_mC, e_m2, e_m1, e_mT, e_mB, e_mAndB, e_mOrB, e_mNotB, e_mAnd, e_mOr, e_mIf, e_mChain, e_mNil, e_mCons, e_mSeq, e_mCall, e_mNo, e_mPart, e_mCut, e_mIs, e_mIs2, e_mL, e_mDsp, e_mRep, e_mBind, e_mIxO, e_mBor, e_mBorB, e_mItems, e_mWk, e_mRev, e_mYes, e_mLc, e_gN, e_gE, e_gC, e_gTt, e_gTl, e_sNx, e_sThen, e_sDrop, e_sRet, e_sSet, e_sIf, e_sFor, e_sAsg, e_sPar, e_sSetO, e_sSetL, e_ownAt, e_freeze, e_sApp, e_sSetIx, e_sAugIx, e_sAug, e_sPop, e_sPopTo, e_fnM, e_bo_rt, e_bo_nx, e_bo_exc, e_startE, e_wipe0, e_wipe1, d_add, d_addib, d_addl, d_addt, d_sub, d_mul, d_div, d_mod, d_pow, d_cmp, d_neg, d_not, d_iadd, d_iop, d_toB, d_toI, d_trB, d_trI, d_trN, d_trL, d_trT, d_lenL, d_lenT, d_intI, d_intB, d_abs, d_gcd, d_max2, d_min2, d_sumI, d_anyB, d_allB, d_maxL, d_minL, d_listL, d_listT, d_tupL, d_tupT, d_idxL, d_idxT, d_lstL, d_lstT, d_revL, d_itL, d_itT, d_rng1, d_rng2, d_enum1, d_zip2, d_rev1L, d_rev1T, d_cutL, d_cutT, d_rep, d_mTup, d_mLst, d_setD, d_scN, d_scB, d_scI, d_scS, d_isN, d_isNN, d_isB, d_isNB, d_nN, d_nB, d_nI, d_nS, d_nL, d_nT, if_true, if_false, ite_true, ite_false, reduceIte, List.length_cons, List.length_nil, Nat.zero_add, Nat.reduceAdd, Nat.reduceSub, Nat.reduceEqDiff, List.map_cons, List.map_nil, List.cons_append, List.nil_append, List.replicate, Option.map_some, Option.bind_some, Option.some.injEq, Bool.not_true, Bool.not_false, ne_eq, Bool.false_eq_true, Int.reduceEq, Int.reduceLT, Int.reduceLE, Int.reduceNeg, Int.reduceAdd, Int.reduceSub, Int.reduceMul, Int.reduceToNat, Int.toNat_natCast, Nat.reduceLT, Nat.reduceLeDiff, not_false_eq_true, not_true_eq_false, decide_true, decide_false, List.length_map, List.map_append, fmod_pos, fdiv_pos, and_true, true_and, and_self, Bool.and_true, Bool.or_false, Bool.and_false, Bool.or_true, Bool.true_and, Bool.false_and, ty_li_none, ty_li_bool, ty_li_int, ty_li_str, ty_li_list, ty_li_tuple, ty_tu_none, ty_tu_bool, ty_tu_int, ty_tu_str, ty_tu_list, ty_tu_tuple, ty_bo_none, ty_bo_bool, ty_bo_int, ty_bo_str, ty_bo_list, ty_bo_tuple, ty_in_none, ty_in_bool, ty_in_int, ty_in_str, ty_in_list, ty_in_tuple, ty_st_none, ty_st_bool, ty_st_int, ty_st_str, ty_st_list, ty_st_tuple, eq_int, ne_int, eq_bl, ne_bl, eq_st, ne_st, eq_li, ne_li, at_0, at_1, at_2, at_3, at_4, at_5, in_li, notin_li, c_z, c_s, gx_v, gx_s, e_mIsX, e_sTry, tc_ok, tc_exc, cm_nil, cm_cons, ex_ok, dx_nil, dx_v, dx_o, dx_x, dx_n, at_exx, Int.cast_ofNat_Int, e_mLrg1, e_mLrg2, d_lrg]
    rw [lcM_rngI (fun k => Bst t r (plan ++ [(k : Int)])) (fun k hk => by
      have ih := best_eval h r n (plan ++ [(k : Int)]) (by omega) (by rw [List.length_append, List.length_singleton]; omega)
      have ih' : m_law_best n [.tuple [.list (t.1.map (enc2 PyData.int PyData.int)), .int t.2.1, .list (t.2.2.map .int)], .list (plan.map .int ++ [.int (k : Int)])] = .ok (.int (Bst t r (plan ++ [(k : Int)]))) := by
        refine Eq.trans ?_ ih
        show _ = m_law_best n [_, .list ((plan ++ [(k : Int)]).map .int)]
        rw [List.map_append]; rfl
      simp (disch := omega) only [l0, l1, ih', bind_ok, bind_bad, bind_exc, at_ok, at_exc, ofO_some, oS_some, nox_okk, g_v, g_s, go_v, go_s, ga_v, ga_o, ga_s, s_z, s_s, fz_o, fz_v, fz_s, e_mGet, e_mC, e_m2, e_m1, e_mT, e_mB, e_mAndB, e_mOrB, e_mNotB, e_mAnd, e_mOr, e_mIf, e_mChain, e_mNil, e_mCons, e_mSeq, e_mCall, e_mNo, e_mPart, e_mCut, e_mIs, e_mIs2, e_mL, e_mDsp, e_mRep, e_mBind, e_mIxO, e_mBor, e_mBorB, e_mItems, e_mWk, e_mRev, e_mYes, e_mLc, e_gN, e_gE, e_gC, e_gTt, e_gTl, e_sNx, e_sThen, e_sDrop, e_sRet, e_sSet, e_sIf, e_sFor, e_sAsg, e_sPar, e_sSetO, e_sSetL, e_ownAt, e_freeze, e_sApp, e_sSetIx, e_sAugIx, e_sAug, e_sPop, e_sPopTo, e_fnM, e_bo_rt, e_bo_nx, e_bo_exc, e_startE, e_wipe0, e_wipe1, d_add, d_addib, d_addl, d_addt, d_sub, d_mul, d_div, d_mod, d_pow, d_cmp, d_neg, d_not, d_iadd, d_iop, d_toB, d_toI, d_trB, d_trI, d_trN, d_trL, d_trT, d_lenL, d_lenT, d_intI, d_intB, d_abs, d_gcd, d_max2, d_min2, d_sumI, d_anyB, d_allB, d_maxL, d_minL, d_listL, d_listT, d_tupL, d_tupT, d_idxL, d_idxT, d_lstL, d_lstT, d_revL, d_itL, d_itT, d_rng1, d_rng2, d_enum1, d_zip2, d_rev1L, d_rev1T, d_cutL, d_cutT, d_rep, d_mTup, d_mLst, d_setD, d_scN, d_scB, d_scI, d_scS, d_isN, d_isNN, d_isB, d_isNB, d_nN, d_nB, d_nI, d_nS, d_nL, d_nT, if_true, if_false, ite_true, ite_false, reduceIte, List.length_cons, List.length_nil, Nat.zero_add, Nat.reduceAdd, Nat.reduceSub, Nat.reduceEqDiff, List.map_cons, List.map_nil, List.cons_append, List.nil_append, List.replicate, Option.map_some, Option.bind_some, Option.some.injEq, Bool.not_true, Bool.not_false, ne_eq, Bool.false_eq_true, Int.reduceEq, Int.reduceLT, Int.reduceLE, Int.reduceNeg, Int.reduceAdd, Int.reduceSub, Int.reduceMul, Int.reduceToNat, Int.toNat_natCast, Nat.reduceLT, Nat.reduceLeDiff, not_false_eq_true, not_true_eq_false, decide_true, decide_false, List.length_map, List.map_append, fmod_pos, fdiv_pos, and_true, true_and, and_self, Bool.and_true, Bool.or_false, Bool.and_false, Bool.or_true, Bool.true_and, Bool.false_and, ty_li_none, ty_li_bool, ty_li_int, ty_li_str, ty_li_list, ty_li_tuple, ty_tu_none, ty_tu_bool, ty_tu_int, ty_tu_str, ty_tu_list, ty_tu_tuple, ty_bo_none, ty_bo_bool, ty_bo_int, ty_bo_str, ty_bo_list, ty_bo_tuple, ty_in_none, ty_in_bool, ty_in_int, ty_in_str, ty_in_list, ty_in_tuple, ty_st_none, ty_st_bool, ty_st_int, ty_st_str, ty_st_list, ty_st_tuple, eq_int, ne_int, eq_bl, ne_bl, eq_st, ne_st, eq_li, ne_li, at_0, at_1, at_2, at_3, at_4, at_5, in_li, notin_li, c_z, c_s, gx_v, gx_s, e_mIsX, e_sTry, tc_ok, tc_exc, cm_nil, cm_cons, ex_ok, dx_nil, dx_v, dx_o, dx_x, dx_n, at_exx, Int.cast_ofNat_Int, e_mLrg1, e_mLrg2, d_lrg])]
    have e := f_maxL (ns := (List.range 4).map fun (k : Nat) => Bst t r (plan ++ [(k : Int)])) (by simp [List.range_succ])
    have e' : bMax [.list (((List.range 4).map fun (k : Nat) => Bst t r (plan ++ [(k : Int)])).map .int)] = _ := e
    rw [bind_ok, bind_ok, bind_ok, e', ofO_some]
    rfl
theorem Bst_ub {t : Trk} {M : Int} : ∀ (r : Nat) (plan : List Int), (∀ ext : List Int, ext.length = r → (∀ x ∈ ext, 0 ≤ x ∧ x ≤ 3) → vl t (plan ++ ext) ≤ M) → Bst t r plan ≤ M
  | 0, plan, h => by
    have := h [] rfl (fun x hx => nomatch hx)
    rwa [List.append_nil] at this
  | r + 1, plan, h => by
    have go : ∀ v : Int, 0 ≤ v → v ≤ 3 → Bst t r (plan ++ [v]) ≤ M := fun v v0 v1 => Bst_ub r (plan ++ [v]) fun ext he hx => by
      have := h (v :: ext) (by rw [List.length_cons, he]) (fun x hx2 => by
        rcases List.mem_cons.mp hx2 with rfl | hx2
        · exact ⟨v0, v1⟩
        · exact hx x hx2)
      rwa [List.append_assoc]
    have m := (maxL_ok (ns := [Bst t r (plan ++ [0]), Bst t r (plan ++ [1]), Bst t r (plan ++ [2]), Bst t r (plan ++ [3])]) (by simp)).1
    show maxL _ ≤ M
    generalize maxL _ = w at m
    simp only [List.mem_cons, List.not_mem_nil, or_false] at m
    rcases m with rfl | rfl | rfl | rfl
    · exact go 0 (by decide) (by decide)
    · exact go 1 (by decide) (by decide)
    · exact go 2 (by decide) (by decide)
    · exact go 3 (by decide) (by decide)
theorem Bst_lb {t : Trk} : ∀ (r : Nat) (plan ext : List Int), ext.length = r → (∀ x ∈ ext, 0 ≤ x ∧ x ≤ 3) → vl t (plan ++ ext) ≤ Bst t r plan
  | 0, plan, ext, he, _ => by
    have : ext = [] := List.length_eq_zero_iff.mp he
    rw [this, List.append_nil]; exact Int.le_refl _
  | r + 1, plan, [], he, _ => by cases he
  | r + 1, plan, v :: ext, he, hx => by
    have hv := hx v (List.mem_cons_self ..)
    have ih := Bst_lb (t := t) r (plan ++ [v]) ext (by rw [List.length_cons] at he; omega) (fun x h => hx x (List.mem_cons_of_mem _ h))
    rw [List.append_assoc] at ih
    refine Int.le_trans ih ?_
    have m := (maxL_ok (ns := [Bst t r (plan ++ [0]), Bst t r (plan ++ [1]), Bst t r (plan ++ [2]), Bst t r (plan ++ [3])]) (by simp)).2
    refine m _ ?_
    have : v = 0 ∨ v = 1 ∨ v = 2 ∨ v = 3 := by omega
    rcases this with rfl | rfl | rfl | rfl <;> simp
theorem mem_le_sum : ∀ {l : List Int} {x : Int}, (∀ y ∈ l, 0 ≤ y) → x ∈ l → x ≤ l.sum
  | [], _, _, h => nomatch h
  | y :: l, x, hp, h => by
    rw [List.sum_cons]
    have h0 := hp y (List.mem_cons_self ..)
    have s0 : ∀ l : List Int, (∀ y ∈ l, 0 ≤ y) → 0 ≤ l.sum := by
      intro l
      induction l with
      | nil => intro _; exact Int.le_refl _
      | cons z l ih =>
        intro hl
        rw [List.sum_cons]
        have := hl z (List.mem_cons_self ..)
        have := ih fun w hw => hl w (List.mem_cons_of_mem _ hw)
        omega
    rcases List.mem_cons.mp h with rfl | h
    · have := s0 l fun w hw => hp w (List.mem_cons_of_mem _ hw)
      omega
    · have := mem_le_sum (l := l) (fun w hw => hp w (List.mem_cons_of_mem _ hw)) h
      omega
theorem sum_nonneg : ∀ {l : List Int}, (∀ y ∈ l, 0 ≤ y) → 0 ≤ l.sum
  | [], _ => Int.le_refl _
  | z :: l, hl => by
    rw [List.sum_cons]
    have := hl z (List.mem_cons_self ..)
    have := sum_nonneg (l := l) fun w hw => hl w (List.mem_cons_of_mem _ hw)
    omega
/-- with at most three years for each piece the best plan has at most three years at each offset -/
theorem best_is {t : Trk} (h : TrOk t) (h3 : ∀ x ∈ t.2.2, x ≤ 3) : Bst t (t.2.1 + 1).toNat [] = (F_most_years t).1 := by
  have h0 := h.sp0
  have h1 := h.sp1
  obtain ⟨_, a1, a2, a3, a4, a5, a6⟩ := most_full h
  have yr : 0 ≤ (F_most_years t).1 := by rw [← a3]; exact sum_nonneg a1.2.1
  apply Int.le_antisymm
  · refine Bst_ub _ _ fun ext he hx => ?_
    rw [List.nil_append]
    unfold vl
    by_cases c : F_law_plan_holds t ext = true
    · rw [if_pos c, Int.mul_one, ← a4]
      exact weak h ((law_plan_T h ext (by omega)).2.mp c) a2
    · rw [if_neg c, Int.mul_zero]; exact yr
  · have pl := a1.1
    have := Bst_lb (t := t) (t.2.1 + 1).toNat [] (F_most_years t).2.1 (by omega) (fun x hx => ⟨a1.2.1 x hx, ?_⟩)
    · rw [List.nil_append] at this
      unfold vl at this
      rw [(law_plan_T h _ (by omega)).2.mpr a1, if_pos rfl, Int.mul_one, a3] at this
      exact this
    · obtain ⟨k, hk, rfl⟩ := List.getElem_of_mem hx
      obtain ⟨w, w1, w2, w3⟩ := has_window h (k := (k : Int)) (by omega) (by omega)
      have tt := a1.2.2 w.1 w1.1 w1.2.1
      unfold Tot at tt
      rw [w1.2.2] at tt
      simp only at tt
      obtain ⟨b1, b2, b3⟩ := Wn_in h0 h.fit w1.2.2
      have m : (F_most_years t).2.1[k] ∈ ((F_most_years t).2.1.drop w.2.1.toNat).take ((w.2.2 + 1).toNat - w.2.1.toNat) := by
        refine List.mem_of_getElem? (i := k - w.2.1.toNat) ?_
        rw [List.getElem?_take, if_pos (by omega), List.getElem?_drop]
        have : w.2.1.toNat + (k - w.2.1.toNat) = k := by omega
        rw [this, List.getElem?_eq_getElem hk]
      have := mem_le_sum (fun y hy => a1.2.1 y (List.mem_of_mem_drop (List.mem_of_mem_take hy))) m
      have := h3 _ (gd_mem (l := t.2.2) (i := w.1.toNat) (d := 0) (by have := w1.2.1; have := w1.1; omega))
      omega
def PSz (x : Int × List Int × List Int) : Prop := x.2.1.length ≤ 100 ∧ x.2.2.length ≤ 400
theorem right_T {t : Trk} (ht : TrOk t) {x : Int × List Int × List Int} (h : PSz x) : S_law_right t x ∧ S_judge_years t x ∧ F_judge_years t x = F_law_right t x := by
  obtain ⟨h1, h2⟩ := h
  have pT := plan_T ht x.2.1 (by omega)
  have lT := law_plan_T ht x.2.1 (by omega)
  have cT := cover_T ht x.2.2 (by omega)
  have dT := law_cover_T ht x.2.2 (by omega)
  have lc : x.2.2.length ≤ sizeLine := by rw [line_eq]; omega
  have e1 := plans_eq ht x.2.1 (by omega)
  have e2 := covers_eq ht x.2.2 (by omega)
  refine ⟨⟨lT.1, fun _ => dT.1, fun hc _ => ⟨lc, fun p hp => ?_⟩⟩, ⟨pT.1, fun _ => cT.1, fun hc _ => ⟨lc, fun p hp => ?_⟩⟩, ?_⟩
  · have : F_law_is_cover t x.2.2 = true := by
      cases c : F_law_is_cover t x.2.2 with
      | true => rfl
      | false => rw [c] at hc; simp at hc
    exact (dT.2.mp this).1 p hp
  · have : F_is_cover t x.2.2 = true := by
      cases c : F_is_cover t x.2.2 with
      | true => rfl
      | false => rw [c] at hc; simp at hc
    exact (cT.2.mp this).1 p hp
  · unfold F_judge_years F_law_right
    rw [e1, e2]
theorem right_most {t : Trk} (h : TrOk t) : F_law_right t (F_most_years t) = true ∧ PSz (F_most_years t) := by
  obtain ⟨_, h1, h2, h3, h4, h5, h6⟩ := most_full h
  have hl := h1.1
  have hs := h.sp1
  have a := (law_plan_T h (F_most_years t).2.1 (by omega)).2.mpr h1
  have b := (law_cover_T h (F_most_years t).2.2 (by omega)).2.mpr h2
  refine ⟨?_, by omega, by omega⟩
  unfold F_law_right
  rw [a, b]
  simp only [Bool.not_true, Bool.or_self, Bool.false_eq_true, if_false]
  rw [Bool.and_eq_true, decide_eq_true_eq, decide_eq_true_eq]
  exact ⟨h3, h4⟩
theorem law_ok (ns : List Int) : Ok (S_law ns) (F_law ns) fun b => b = true := by
  obtain ⟨sD, lD, bD⟩ := draws_T ns (a := 0) (c := 8) (by decide) (by decide) (by decide)
  have sz : ∀ n : Nat, n ≤ 20000 → n ≤ sizeLine := fun n hn => by rw [line_eq]; omega
  have tT := law_track_T ns (wide := 13) (by decide) (by decide)
  unfold S_law F_law
  refine ok_g sD (ok_bnd (fun ds => (ds.length : Int) = 8 ∧ ∀ x ∈ ds, 0 ≤ x ∧ x < 5040) ⟨lD, bD⟩ fun picks ⟨hl, hb⟩ => ?_)
  refine ok_g tT.1 (ok_bnd (fun t => TrOk t ∧ t.2.2.length ≤ 300) ⟨tT.2.1, tT.2.2.1⟩ fun t ⟨ht, htl⟩ => ?_)
  have h0 := ht.sp0
  have h1 := ht.sp1
  have mF := most_full ht
  have pT := paper_T ht
  obtain ⟨rm, rs⟩ := right_most ht
  have rT := right_T ht rs
  refine ok_g mF.1 (ok_bnd (fun x => x = F_most_years t) rfl fun told htold => ok_g pT.1 (ok_bnd (fun x => x = F_most_years t) pT.2 fun due hdue => ?_))
  subst htold
  subst hdue
  have l1 : (F_most_years t).2.1.length ≤ sizeLine := sz _ (by have := rs.1; omega)
  have l2 : (F_most_years t).2.2.length ≤ sizeLine := sz _ (by have := rs.2; omega)
  refine ok_g ?_ (ok_g (fun _ => ⟨rT.1, fun _ => rT.2.1⟩) (ok_no (by rw [rT.2.2, rm]; simp) ?_))
  · refine ⟨by simp, fun x hx => ?_⟩
    simp only [List.mem_cons, List.not_mem_nil, or_false] at hx
    rcases hx with rfl | rfl | rfl
    · trivial
    · exact plain_LE ple_I l1
    · exact plain_LE ple_I l2
  have tpos : 0 < t.2.2.length := by
    obtain ⟨x, hx, _⟩ := has_window ht (k := 0) (Int.le_refl _) ht.sp0
    have := hx.1
    have := hx.2.1
    omega
  have small : TrOk (t.1, t.2.1, t.2.2.map fun years => min 3 years) := ht.lefts (List.length_map _) fun x hx => by
    obtain ⟨y, hy, rfl⟩ := List.mem_map.mp hx
    have := ht.lf y hy
    omega
  have smallF := most_full small
  have sbest : t.2.1 < 3 → m_law_best 8 [enc3 (encL (enc2 PyData.int PyData.int)) PyData.int (encL PyData.int) (t.1, t.2.1, t.2.2.map fun years => min 3 years), encL PyData.int []] = .ok (.int (F_most_years (t.1, t.2.1, t.2.2.map fun years => min 3 years)).1) := fun hs => by
    rw [← best_is small (fun x hx => by
      obtain ⟨y, _, rfl⟩ := List.mem_map.mp hx
      omega)]
    exact best_eval small _ 8 [] (by simp only; omega) (by simp only [List.length_nil]; omega)
  refine ok_g (fun hs => ⟨sz _ (by omega), ⟨_, sbest (of_decide_eq_true hs)⟩, smallF.1⟩) (ok_elN (s := ()) ?_ ?_)
  · by_cases hs : t.2.1 < 3
    · rw [if_pos (decide_eq_true hs)]
      simp only [bnd]
      have : F_law_best (t.1, t.2.1, t.2.2.map fun years => min 3 years) [] = (F_most_years (t.1, t.2.1, t.2.2.map fun years => min 3 years)).1 := opq_I (sbest hs)
      rw [this]
      simp
    · rw [if_neg (by simpa using hs)]
  refine ok_g (by omega) (ok_g (by omega) (ok_bnd (fun p => 0 ≤ p ∧ p < t.2.2.length) ⟨Int.emod_nonneg _ (by omega), Int.emod_lt_of_pos _ (by omega)⟩ fun p ⟨p0, p1⟩ => ?_))
  have tk : ((t.2.2.drop 0).take (p.toNat - 0)).length ≤ 300 := by rw [List.length_take, List.length_drop]; omega
  have dk : (t.2.2.drop (p + 1).toNat).length ≤ 300 := by rw [List.length_drop]; omega
  rw [set_parts _ p0 p1, set_parts _ p0 p1]
  have hp0 := Lf_pos ht p0 p1
  have hLf : Lf t p = t.2.2.getD p.toNat 0 := rfl
  have mo : TrOk (t.1, t.2.1, t.2.2.set p.toNat (t.2.2.getD p.toNat 0 + 1)) := ht.lefts List.length_set fun x hx => by
    rcases List.mem_or_eq_of_mem_set hx with hx | hx
    · exact ht.lf x hx
    · omega
  have wo : TrOk (t.1, t.2.1, t.2.2.set p.toNat 0) := ht.lefts List.length_set fun x hx => by
    rcases List.mem_or_eq_of_mem_set hx with hx | hx
    · exact ht.lf x hx
    · omega
  obtain ⟨moR, moS⟩ := right_most mo
  obtain ⟨woR, woS⟩ := right_most wo
  have moT := right_T mo moS
  have woT := right_T wo woS
  obtain ⟨y1, y2⟩ := more_years ht p0 p1
  have lw := law_window_T ht p
  refine ok_g p0 (ok_g ⟨p0, p1⟩ (ok_g (sz _ (by simp only [List.length_singleton]; omega)) (ok_g (by omega) (ok_g (sz _ (by simp only [List.length_append, List.length_singleton]; omega)) (ok_bnd (fun x => x = (t.1, t.2.1, t.2.2.set p.toNat (t.2.2.getD p.toNat 0 + 1))) rfl fun more hmore => ?_)))))
  subst hmore
  refine ok_g (most_full mo).1 (ok_bnd (fun x => x = F_most_years (t.1, t.2.1, t.2.2.set p.toNat (t.2.2.getD p.toNat 0 + 1))) rfl fun grown hgrown => ?_)
  subst hgrown
  refine ok_g moT.1 (ok_no (by rw [moR, decide_eq_false (Int.not_lt.mpr y1), decide_eq_false (Int.not_lt.mpr y2)]; rfl) ?_)
  refine ok_g (sz _ (by simp only [List.length_singleton]; omega)) (ok_g (sz _ (by simp only [List.length_append, List.length_singleton]; omega)) (ok_bnd (fun x => x = (t.1, t.2.1, t.2.2.set p.toNat 0)) rfl fun worn hworn => ?_))
  subst hworn
  refine ok_g (most_full wo).1 (ok_bnd (fun x => x = F_most_years (t.1, t.2.1, t.2.2.set p.toNat 0)) rfl fun fewer hfewer => ?_)
  subst hfewer
  refine ok_g lw.1 (ok_bnd (fun w => w = Wn t.2.1 p t.1) lw.2 fun w hw => ?_)
  have woF := most_full wo
  have fin : ∀ ab : Int × Int, Wn t.2.1 p t.1 = some ab → ((((F_most_years (t.1, t.2.1, t.2.2.set p.toNat 0)).2.1.drop ab.1.toNat).take ((ab.2 + 1).toNat - ab.1.toNat)).sum = 0) := fun ab hab => by
    have tt := woF.2.1.2.2 p p0 (by show p < ((t.2.2.set p.toNat 0).length : Int); rw [List.length_set]; exact p1)
    unfold Tot at tt
    have hab' : Wn (t.1, t.2.1, t.2.2.set p.toNat 0).2.1 p (t.1, t.2.1, t.2.2.set p.toNat 0).1 = some ab := hab
    rw [hab'] at tt
    simp only at tt
    rw [gd_set _ (by omega), if_pos rfl] at tt
    have := sum_nonneg (l := ((F_most_years (t.1, t.2.1, t.2.2.set p.toNat 0)).2.1.drop ab.1.toNat).take ((ab.2 + 1).toNat - ab.1.toNat)) fun y hy => woF.2.1.2.1 y (List.mem_of_mem_drop (List.mem_of_mem_take hy))
    omega
  refine ok_g woT.1 (ok_g (fun _ hs => ?_) (ok_no ?_ (ok_end ⟨moT.2.1, fun _ => woT.2.1⟩ ?_)))
  · cases c : Wn t.2.1 p t.1 with
    | none => rw [hw, c] at hs; cases hs
    | some ab =>
      obtain ⟨a1, a2, a3⟩ := Wn_in h0 ht.fit c
      rw [hw, c]
      exact ⟨rfl, a1, by simp only [Option.getD_some]; omega⟩
  · rw [woR, hw]
    cases c : Wn t.2.1 p t.1 with
    | none => rfl
    | some ab =>
      simp only [Option.getD_some, Option.isSome_some, Bool.not_true, Bool.false_or, Bool.true_and]
      rw [decide_eq_true (fin ab c)]; rfl
  · rw [moT.2.2, woT.2.2, moR, woR]
    rfl
theorem law_true (ns : List Int) (hns : ns.length ≤ 63) : m_law [.list (ns.map .int)] = .ok (.bool true) := by
  obtain ⟨h1, h2⟩ := law_ok ns
  have := T_law ns h1
  rw [h2] at this
  exact this
end Law
end
section
open PySem PySem.W PySem.Calls PyProof.Rows
set_option maxHeartbeats 0 in
theorem PySem.Challenge.cw_ropesbear_k68_whole_most_years_on_saddle_holds : PySem.Challenge.rw_ropesbear_k68_whole_most_years_on_saddle.Holds := by
  w_on; o_law
  refine HandSHeadRun.head_any (r := OpenLaw.row PySem.Challenge.rw_ropesbear_k68_whole_most_years_on_saddle) (q := view (OpenLaw.row PySem.Challenge.rw_ropesbear_k68_whole_most_years_on_saddle).prog [28]) (H := Law.hk) (ob := Law.ob) (M := 2140) (loose := Law.loose) (d := HandSHeadRun.topDef (OpenLaw.row PySem.Challenge.rw_ropesbear_k68_whole_most_years_on_saddle).prog 28) (kwd := []) Law.ob_eq
    (by kernel_rfl) (fun s => by kernel_rfl) Law.run (by kernel_rfl) (by kernel_rfl) (by kernel_rfl) (by rfl) (by first | assumption | decide +kernel) (by decide +kernel) ⟨rfl, rfl, rfl, rfl, rfl, by decide +kernel⟩ ?hw ?hc
  case hw => w_witness2
  case hc =>
    refine PV.walk_world (l := PySem.Challenge.rw_ropesbear_k68_whole_most_years_on_saddle) (n := 63) (k := 11) (x := "script") rfl (by decide) (by kernel_rfl) ⟨rfl, by decide, by decide⟩ ?_
    intro w mg fa h Y G hmg0
    obtain ⟨K, KX, c⟩ := Y
    have hmg : mg ("law" : PySem.Str) = some (.ref fa) := by
      have e : (HandSHeadRun.topDef (OpenLaw.row PySem.Challenge.rw_ropesbear_k68_whole_most_years_on_saddle).prog 28).name = ("law" : PySem.Str) := by kernel_rfl
      rw [← e]
      exact hmg0
    obtain ⟨fd, hb, hF⟩ := Law.facts (P := (PySem.Challenge.rw_ropesbear_k68_whole_most_years_on_saddle).prog) (w := w) KX G hmg c
    exact ⟨K, fd, PV.SpV K mg 1 Law.m_law, KX, hb, fun H a ns hl hS => PV.law_end (n := 63) (by decide) Law.law_true H a ns hl hS, hF⟩
end
