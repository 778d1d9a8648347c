import PyProof.Rows.All
import Wide.All
import OpenK.AllK
import Wide.FinOn
import HandS.ForMost
import HandS.Exc
import HandS.TryOnly
import HandS.TryMany
import HandS.ExcOwn
import HandS.WordsExc
import HandS.CallSlots
import HandS.TupAny
import HandS.Wide
import PyProof.StrOps2
import HandS.Gcd
import HandS.IsInst
import KE.SortData
import HandS.Zip
import HandS.Rev
import HandS.RevRange
import HandS.Defaults
import HandS.Head0
import HandS.Head1
import HandS.Head2
import HandS.HeadEnd
import HandS.HeadHook1
import HandS.HeadHook2
import HandS.HeadHook3
import HandS.HeadHook4
import KE.Datum
import HandS.ExcIs
import HandS.Conv
import HandS.Style
import KE.DataMinMax
import PyProof.Rows.RowBridgeK
import HandS.Head3
import PySem.Challenge.RW_ropesbear_k03_whole_ropes_are_in_balance
section
set_option Elab.async false
set_option linter.all false
set_option maxRecDepth 100000
set_option maxHeartbeats 4000000
/-! VA: data in the place of the heap. What a piece of text yields is told over PyData; lists that a body changes are its own. -/
namespace PV
abbrev Sg := L2.St
open PySem PySem.Spec PyProof.Rows L2

/-! ### results -/
inductive R (ε α : Type) where
  | ok (a : α)
  | exc (c : Str) (e : ε)
  | bad
def R.bind {ε α β : Type} (x : R ε α) (f : α → R ε β) : R ε β := match x with
  | .ok a => f a
  | .exc c e => .exc c e
  | .bad => .bad
def R.post {ε α : Type} (x : R ε α) (Q : α → Prop) (E : Str → ε → Prop) : Prop := match x with
  | .ok a => Q a
  | .exc c e => E c e
  | .bad => False
theorem R.post_mono {ε α : Type} {x : R ε α} {Q Q' : α → Prop} {E E' : Str → ε → Prop} (h : x.post Q E) (hq : ∀ a, Q a → Q' a) (he : ∀ c e, E c e → E' c e) : x.post Q' E' := by
  cases x with
  | ok a => exact hq a h
  | exc c e => exact he c e h
  | bad => exact h
theorem R.post_bind {ε α β : Type} {x : R ε α} {f : α → R ε β} {Q : β → Prop} {E : Str → ε → Prop} (h : (x.bind f).post Q E) : x.post (fun a => (f a).post Q E) E := by
  cases x with
  | ok a => exact h
  | exc c e => exact h
  | bad => exact h
abbrev RE (α : Type) := R Unit α
def ofO {α : Type} : Option α → RE α
  | some a => .ok a
  | none => .bad
/-- a guard -/
def grd {ε α : Type} (p : Prop) [Decidable p] (x : R ε α) : R ε α := if p then x else .bad
theorem grd_pos {ε α : Type} {p : Prop} [Decidable p] {x : R ε α} (h : p) : grd p x = x := if_pos h

/-! ### the heap and its still part -/
structure Ext (F H F' H' : Hp) : Prop where
  hh : Same H H'
  ff : Same F F'
  fh : Same F' H'
  nw : ∀ a o, F' a = some o → F a = some o ∨ H a = none
theorem Ext.refl {F H : Hp} (h : Same F H) : Ext F H F H := ⟨Same.refl _, Same.refl _, h, fun _ _ e => .inl e⟩
theorem Ext.trans {F H F1 H1 F2 H2 : Hp} (a : Ext F H F1 H1) (b : Ext F1 H1 F2 H2) : Ext F H F2 H2 :=
  ⟨a.hh.trans b.hh, a.ff.trans b.ff, b.fh, fun x o e => by
    rcases b.nw x o e with q | q
    · exact a.nw x o q
    · exact .inr (a.hh.free q)⟩
theorem same_upd {H : Hp} {p : Addr} {o : HO} (n : H p = none) : Same H (upd H p o) := fun b u e => by
  rw [upd_ne (ne_of_none e n)]; exact e
/-- a new object that is still from now on -/
theorem Ext.new {F H : Hp} {p : Addr} {o : HO} (h : Same F H) (n : H p = none) : Ext F H (upd F p o) (upd H p o) := by
  refine ⟨same_upd n, same_upd (h.free n), fun b u e => ?_, fun b u e => ?_⟩
  · by_cases hb : b = p
    · subst hb; rw [upd_same] at e ⊢; exact e
    · rw [upd_ne hb] at e ⊢; exact h b u e
  · by_cases hb : b = p
    · subst hb; exact .inr n
    · rw [upd_ne hb] at e; exact .inl e
/-- a new object beside the still part -/
theorem Ext.beside {F H : Hp} {p : Addr} {o : HO} (h : Same F H) (n : H p = none) : Ext F H F (upd H p o) :=
  ⟨same_upd n, Same.refl _, h.trans (same_upd n), fun _ _ e => .inl e⟩
/-- the still part grows by an object that stands beside it, outside of what stood ahead -/
theorem Ext.still {F H F1 H1 : Hp} {p : Addr} {o : HO} (e : Ext F H F1 H1) (h1 : H1 p = some o) (n : H p = none) (nf : F1 p = none) : Ext F H (upd F1 p o) H1 := by
  refine ⟨e.hh, e.ff.trans (same_upd nf), fun b u q => ?_, fun b u q => ?_⟩
  · by_cases hb : b = p
    · subst hb; rw [upd_same] at q; rw [h1]; exact q
    · rw [upd_ne hb] at q; exact e.fh b u q
  · by_cases hb : b = p
    · subst hb; exact .inr n
    · rw [upd_ne hb] at q; exact e.nw b u q

/-! ### a value is a datum -/
section
variable (K : PySem.W.Frag)
mutual
inductive Vd (F : Hp) : V → PyData → Prop
  | non : Vd F .non .none
  | bl (b : Bool) : Vd F (.bl b) (.bool b)
  | int (i : Int) : Vd F (.int i) (.int i)
  | str (x : Str) : PyData.strOk x = true → Vd F (.str x) (.str x)
  | lst {a : Addr} {xs : List V} {ds : List PyData} : SqL K F a xs → xs.length ≤ sizeLine → VdAll F xs ds → Vd F (.ref a) (.list ds)
  | tup {a : Addr} {xs : List V} {ds : List PyData} : SqT K F a xs → xs.length ≤ sizeLine → VdAll F xs ds → Vd F (.ref a) (.tuple ds)
inductive VdAll (F : Hp) : List V → List PyData → Prop
  | nil : VdAll F [] []
  | cons {v : V} {vs : List V} {d : PyData} {ds : List PyData} : Vd F v d → VdAll F vs ds → VdAll F (v :: vs) (d :: ds)
end
end
theorem same_rd {H H' : Hp} {a : Addr} {u : HO} (e : Same H H') (h : Rd H a u) : Rd H' a u := by
  rcases h with h | ⟨o, h⟩
  · exact .inl (e _ _ h)
  · exact .inr ⟨o, e _ _ h⟩
theorem same_sqT {K : PySem.W.Frag} {H H' : Hp} {a : Addr} {xs : List V} (e : Same H H') (h : SqT K H a xs) : SqT K H' a xs := by
  rcases h with h | h
  · exact .inl (same_rd e h)
  · exact .inr h
section
variable {K : PySem.W.Frag} {F F' : Hp}
mutual
theorem Vd.mono (e : Same F F') : ∀ (d : PyData) (v : V), Vd K F v d → Vd K F' v d
  | .none, _, h => by cases h; exact .non
  | .bool b, _, h => by cases h; exact .bl b
  | .int i, _, h => by cases h; exact .int i
  | .str x, _, h => by cases h with | str _ hx => exact .str x hx
  | .list ds, _, h => by cases h with | lst hs hz ha => exact .lst (e.seq hs) hz (VdAll.mono e ds _ ha)
  | .tuple ds, _, h => by cases h with | tup hs hz ha => exact .tup (same_sqT e hs) hz (VdAll.mono e ds _ ha)
  | .dict _, _, h => by cases h
theorem VdAll.mono (e : Same F F') : ∀ (ds : List PyData) (vs : List V), VdAll K F vs ds → VdAll K F' vs ds
  | [], _, h => by cases h; exact .nil
  | d :: ds, _, h => by cases h with | cons h1 h2 => exact .cons (Vd.mono e d _ h1) (VdAll.mono e ds _ h2)
end
mutual
theorem Vd.dp : ∀ (d : PyData) (v : V), Vd K F v d → Dp K F v d ∧ d.canLay0 = true
  | .none, _, h => by cases h; exact ⟨.non, rfl⟩
  | .bool b, _, h => by cases h; exact ⟨.bl b, rfl⟩
  | .int i, _, h => by cases h; exact ⟨.int i, rfl⟩
  | .str x, _, h => by cases h with | str _ hx => exact ⟨.str x, by simpa only [PyData.canLay0] using hx⟩
  | .list ds, _, h => by cases h with | lst hs hz ha => exact ⟨.lst hs (VdAll.dp ds _ ha).1, by simpa only [PyData.canLay0] using (VdAll.dp ds _ ha).2⟩
  | .tuple ds, _, h => by cases h with | tup hs hz ha => exact ⟨.tup hs (VdAll.dp ds _ ha).1, by simpa only [PyData.canLay0] using (VdAll.dp ds _ ha).2⟩
  | .dict _, _, h => by cases h
theorem VdAll.dp : ∀ (ds : List PyData) (vs : List V), VdAll K F vs ds → DpAll K F vs ds ∧ PyData.canLayAll0 ds = true
  | [], _, h => by cases h; exact ⟨.nil, rfl⟩
  | d :: ds, _, h => by cases h with | cons h1 h2 => exact ⟨.cons (Vd.dp d _ h1).1 (VdAll.dp ds _ h2).1, by simp only [PyData.canLayAll0, (Vd.dp d _ h1).2, (VdAll.dp ds _ h2).2, Bool.and_self]⟩
end
theorem VdAll.length : ∀ {vs : List V} {ds : List PyData}, VdAll K F vs ds → vs.length = ds.length
  | _, _, .nil => rfl
  | _, _, .cons _ t => by rw [List.length_cons, List.length_cons, VdAll.length t]
theorem VdAll.get : ∀ {vs : List V} {ds : List PyData} {i : Nat} {d : PyData}, VdAll K F vs ds → ds[i]? = some d → ∃ v, vs[i]? = some v ∧ Vd K F v d
  | _, _, _, _, .nil, e => by simp at e
  | _, _, 0, _, .cons h _, e => by simp at e; subst e; exact ⟨_, rfl, h⟩
  | _, _, i + 1, d, .cons _ t, e => by
    obtain ⟨v, h1, h2⟩ := VdAll.get (i := i) (d := d) t (by simpa using e)
    exact ⟨v, by simpa using h1, h2⟩
theorem VdAll.getV : ∀ {vs : List V} {ds : List PyData} {i : Nat} {v : V}, VdAll K F vs ds → vs[i]? = some v → ∃ d, ds[i]? = some d ∧ Vd K F v d
  | _, _, _, _, .nil, e => by simp at e
  | _, _, 0, _, .cons h _, e => by simp at e; subst e; exact ⟨_, rfl, h⟩
  | _, _, i + 1, v, .cons _ t, e => by
    obtain ⟨d, h1, h2⟩ := VdAll.getV (i := i) (v := v) t (by simpa using e)
    exact ⟨d, by simpa using h1, h2⟩
theorem VdAll.append : ∀ {vs ws : List V} {ds es : List PyData}, VdAll K F vs ds → VdAll K F ws es → VdAll K F (vs ++ ws) (ds ++ es)
  | _, _, _, _, .nil, s => s
  | _, _, _, _, .cons h t, s => .cons h (VdAll.append t s)
theorem VdAll.set {v : V} {d : PyData} (h : Vd K F v d) : ∀ {vs : List V} {ds : List PyData} (i : Nat), VdAll K F vs ds → VdAll K F (vs.set i v) (ds.set i d)
  | _, _, _, .nil => .nil
  | _, _, 0, .cons _ t => .cons h t
  | _, _, i + 1, .cons q t => .cons q (VdAll.set h i t)
theorem VdAll.take : ∀ {vs : List V} {ds : List PyData} (n : Nat), VdAll K F vs ds → VdAll K F (vs.take n) (ds.take n)
  | _, _, 0, _ => .nil
  | _, _, _ + 1, .nil => .nil
  | _, _, n + 1, .cons h t => .cons h (VdAll.take n t)
theorem VdAll.drop : ∀ {vs : List V} {ds : List PyData} (n : Nat), VdAll K F vs ds → VdAll K F (vs.drop n) (ds.drop n)
  | _, _, 0, h => h
  | _, _, _ + 1, .nil => .nil
  | _, _, n + 1, .cons _ t => VdAll.drop n t
theorem VdAll.reverse {vs : List V} {ds : List PyData} (h : VdAll K F vs ds) : VdAll K F vs.reverse ds.reverse := by
  induction ds generalizing vs with
  | nil => cases h; exact .nil
  | cons d ds ih =>
    cases h with
    | cons h1 h2 => rw [List.reverse_cons, List.reverse_cons]; exact (ih h2).append (.cons h1 .nil)
theorem VdAll.erase : ∀ {vs : List V} {ds : List PyData} (i : Nat), VdAll K F vs ds → VdAll K F (vs.eraseIdx i) (ds.eraseIdx i)
  | _, _, _, .nil => .nil
  | _, _, 0, .cons _ t => t
  | _, _, i + 1, .cons h t => .cons h (VdAll.erase i t)
theorem VdAll.rep {vs : List V} {ds : List PyData} (h : VdAll K F vs ds) : ∀ k : Nat, VdAll K F (List.replicate k vs).flatten (List.replicate k ds).flatten
  | 0 => .nil
  | k + 1 => by rw [List.replicate_succ, List.replicate_succ, List.flatten_cons, List.flatten_cons]; exact h.append (VdAll.rep h k)
theorem VdAll.mem {d : PyData} : ∀ {vs : List V} {ds : List PyData}, VdAll K F vs ds → d ∈ ds → ∃ v, v ∈ vs ∧ Vd K F v d
  | _, _, .cons h t, m => by
    rcases List.mem_cons.mp m with rfl | m
    · exact ⟨_, List.mem_cons_self, h⟩
    · obtain ⟨v, h1, h2⟩ := VdAll.mem t m
      exact ⟨v, List.mem_cons_of_mem _ h1, h2⟩
end

/-! ### the frame's names -/
inductive Cel where
  | val (d : PyData)
  /-- a list that the body made and changes -/
  | own (ds : List PyData)
  /-- the error that a suite holds, by its class's name -/
  | exn (c : Str)
abbrev Evn := List (Option Cel)
/-- of a body: what stood ahead of it, its still part, what is wanted of an exception -/
structure Pm where
  B : Hp
  F0 : Hp
  W : WX
  /-- the error that is held -/
  E : Option (Addr × Str)
def CellOk (K : PySem.W.Frag) (P : Pm) (F H : Hp) (v : V) : Cel → Prop
  | .val d => Vd K F v d
  | .exn c => ∃ a, P.E = some (a, c) ∧ v = .ref a
  | .own ds => ∃ a xs, v = .ref a ∧ P.B a = none ∧ F a = none ∧ H a = some (.lst xs) ∧ xs.length ≤ sizeLine ∧ VdAll K F xs ds
structure Rep (K : PySem.W.Frag) (P : Pm) (ρ : Evn) (F : Hp) (σ : Sg) (H : Hp) : Prop where
  len : ρ.length = σ.length
  ext : Ext P.F0 P.B F H
  slot : ∀ (i : Nat) (c : Cel), ρ[i]? = some (some c) → ∃ v, σ[i]? = some (some v) ∧ CellOk K P F H v c
  sep : ∀ (i j : Nat) (a : Addr) (ds es : List PyData), i ≠ j → ρ[i]? = some (some (.own ds)) → ρ[j]? = some (some (.own es)) → σ[i]? = some (some (.ref a)) → σ[j]? ≠ some (some (.ref a))
section
variable {K : PySem.W.Frag} {P : Pm} {ρ : Evn} {F F' H H' : Hp} {σ : Sg}
theorem Rep.fh (r : Rep K P ρ F σ H) : Same F H := r.ext.fh
theorem CellOk.step {v : V} {c : Cel} (h : CellOk K P F H v c) (e : Ext F H F' H') : CellOk K P F' H' v c := by
  cases c with
  | exn c => exact h
  | val d => exact Vd.mono e.ff d v h
  | own ds =>
    obtain ⟨a, xs, ev, hb, hf, hh, hz, hd⟩ := h
    refine ⟨a, xs, ev, hb, ?_, e.hh a _ hh, hz, VdAll.mono e.ff ds xs hd⟩
    cases q : F' a with
    | none => rfl
    | some o =>
      rcases e.nw a o q with z | z
      · rw [hf] at z; cases z
      · rw [hh] at z; cases z
theorem Rep.step (r : Rep K P ρ F σ H) (e : Ext F H F' H') : Rep K P ρ F' σ H' :=
  ⟨r.len, r.ext.trans e, fun i c q => let ⟨v, h1, h2⟩ := r.slot i c q; ⟨v, h1, h2.step e⟩, r.sep⟩
/-- a datum is stored -/
theorem Rep.setVal {i : Nat} {v : V} {d : PyData} (r : Rep K P ρ F σ H) (h : Vd K F v d) : Rep K P (ρ.set i (some (.val d))) F (σ.set i (some v)) H := by
  refine ⟨by rw [List.length_set, List.length_set]; exact r.len, r.ext, fun j c q => ?_, fun j k a ds es hne q1 q2 q3 => ?_⟩
  · by_cases hj : i = j
    · subst hj
      have hi : i < ρ.length := by
        have := (List.getElem?_eq_some_iff.mp q).1
        rwa [List.length_set] at this
      rw [List.getElem?_set_self hi] at q
      cases q
      exact ⟨v, by rw [List.getElem?_set_self (by rw [← r.len]; exact hi)], h⟩
    · rw [List.getElem?_set_ne hj] at q
      obtain ⟨u, h1, h2⟩ := r.slot j c q
      exact ⟨u, by rw [List.getElem?_set_ne hj]; exact h1, h2⟩
  · have nj : ∀ {j : Nat} {ds : List PyData}, (ρ.set i (some (.val d)))[j]? = some (some (.own ds)) → i ≠ j ∧ ρ[j]? = some (some (.own ds)) := fun {j ds} q => by
      by_cases hj : i = j
      · subst hj
        have hi : i < ρ.length := by
          have := (List.getElem?_eq_some_iff.mp q).1
          rwa [List.length_set] at this
        rw [List.getElem?_set_self hi] at q
        cases q
      · rw [List.getElem?_set_ne hj] at q
        exact ⟨hj, q⟩
    obtain ⟨n1, p1⟩ := nj q1
    obtain ⟨n2, p2⟩ := nj q2
    rw [List.getElem?_set_ne n1] at q3
    rw [List.getElem?_set_ne n2]
    exact r.sep j k a ds es hne p1 p2 q3
/-- a list that stands beside the still part becomes a name's own -/
theorem Rep.setOwn {i : Nat} {a : Addr} {xs : List V} {ds : List PyData} (r : Rep K P ρ F σ H) (hb : P.B a = none) (hf : F a = none) (hh : H a = some (.lst xs)) (hz : xs.length ≤ sizeLine) (h : VdAll K F xs ds)
    (fresh : ∀ (j : Nat) (es : List PyData), j ≠ i → ρ[j]? = some (some (.own es)) → σ[j]? ≠ some (some (.ref a))) : Rep K P (ρ.set i (some (.own ds))) F (σ.set i (some (.ref a))) H := by
  refine ⟨by rw [List.length_set, List.length_set]; exact r.len, r.ext, fun j c q => ?_, fun j k b es es' hne q1 q2 q3 => ?_⟩
  · by_cases hj : i = j
    · subst hj
      have hi : i < ρ.length := by
        have := (List.getElem?_eq_some_iff.mp q).1
        rwa [List.length_set] at this
      rw [List.getElem?_set_self hi] at q
      cases q
      exact ⟨_, by rw [List.getElem?_set_self (by rw [← r.len]; exact hi)], a, xs, rfl, hb, hf, hh, hz, h⟩
    · rw [List.getElem?_set_ne hj] at q
      obtain ⟨u, h1, h2⟩ := r.slot j c q
      exact ⟨u, by rw [List.getElem?_set_ne hj]; exact h1, h2⟩
  · by_cases h1 : i = j
    · subst h1
      have hi : i < σ.length := by
        have := (List.getElem?_eq_some_iff.mp q3).1
        rwa [List.length_set] at this
      rw [List.getElem?_set_self hi] at q3
      have e : a = b := by
        have := Option.some.inj (Option.some.inj q3)
        exact V.ref.inj this
      subst e
      rw [List.getElem?_set_ne hne] at q2 ⊢
      exact fresh k es' (Ne.symm hne) q2
    · rw [List.getElem?_set_ne h1] at q1 q3
      by_cases h2 : i = k
      · subst h2
        intro q4
        have hi : i < σ.length := by
          have := (List.getElem?_eq_some_iff.mp q4).1
          rwa [List.length_set] at this
        rw [List.getElem?_set_self hi] at q4
        have e : a = b := V.ref.inj (Option.some.inj (Option.some.inj q4))
        subst e
        exact fresh j es (Ne.symm h1) q1 q3
      · rw [List.getElem?_set_ne h2] at q2 ⊢
        exact r.sep j k b es es' hne q1 q2 q3
/-- forgetting a name -/
theorem Rep.setNone {i : Nat} (r : Rep K P ρ F σ H) : Rep K P (ρ.set i none) F (σ.set i none) H := by
  have nj : ∀ {j : Nat} {c : Cel}, (ρ.set i none)[j]? = some (some c) → i ≠ j ∧ ρ[j]? = some (some c) := fun {j c} q => by
    by_cases hj : i = j
    · subst hj
      have hi : i < ρ.length := by
        have := (List.getElem?_eq_some_iff.mp q).1
        rwa [List.length_set] at this
      rw [List.getElem?_set_self hi] at q
      cases q
    · rw [List.getElem?_set_ne hj] at q
      exact ⟨hj, q⟩
  refine ⟨by rw [List.length_set, List.length_set]; exact r.len, r.ext, fun j c q => ?_, fun j k a ds es hne q1 q2 q3 => ?_⟩
  · obtain ⟨n, p⟩ := nj q
    obtain ⟨u, h1, h2⟩ := r.slot j c p
    exact ⟨u, by rw [List.getElem?_set_ne n]; exact h1, h2⟩
  · obtain ⟨n1, p1⟩ := nj q1
    obtain ⟨n2, p2⟩ := nj q2
    rw [List.getElem?_set_ne n1] at q3
    rw [List.getElem?_set_ne n2]
    exact r.sep j k a ds es hne p1 p2 q3
/-- a name's own list becomes still -/
def freeze (i : Nat) (ρ : Evn) : Evn := match ρ[i]? with
  | some (some (.own ds)) => ρ.set i (some (.val (.list ds)))
  | _ => ρ
theorem Rep.freeze {i : Nat} (r : Rep K P ρ F σ H) : ∃ F', Same F F' ∧ Rep K P (freeze i ρ) F' σ H := by
  unfold PV.freeze
  cases q : ρ[i]? with
  | none => exact ⟨F, Same.refl _, r⟩
  | some o =>
    cases o with
    | none => exact ⟨F, Same.refl _, r⟩
    | some c =>
      cases c with
      | val d => exact ⟨F, Same.refl _, r⟩
      | exn c => exact ⟨F, Same.refl _, r⟩
      | own ds =>
        obtain ⟨v, hσ, a, xs, ev, hb, hf, hh, hz, hd⟩ := r.slot i _ q
        subst ev
        have hi : i < ρ.length := (List.getElem?_eq_some_iff.mp q).1
        have ff : Same F (upd F a (.lst xs)) := same_upd hf
        have hset : σ.set i (some (.ref a)) = σ := by
          apply List.ext_getElem?
          intro j
          by_cases hj : i = j
          · subst hj; rw [List.getElem?_set_self (by rw [← r.len]; exact hi)]; exact hσ.symm
          · rw [List.getElem?_set_ne hj]
        have nj : ∀ {j : Nat} {c : Cel}, (ρ.set i (some (.val (.list ds))))[j]? = some (some c) → (i = j ∧ c = .val (.list ds)) ∨ (i ≠ j ∧ ρ[j]? = some (some c)) := fun {j c} q => by
          by_cases hj : i = j
          · subst hj
            rw [List.getElem?_set_self hi] at q
            cases q
            exact .inl ⟨rfl, rfl⟩
          · rw [List.getElem?_set_ne hj] at q
            exact .inr ⟨hj, q⟩
        refine ⟨upd F a (.lst xs), ff, by rw [List.length_set]; exact r.len, ⟨r.ext.hh, r.ext.ff.trans ff, fun b u e => ?_, fun b u e => ?_⟩, fun j c p => ?_, fun j k b es es' hne q1 q2 q3 => ?_⟩
        · by_cases hb' : b = a
          · subst hb'; rw [upd_same] at e; rw [hh]; exact e
          · rw [upd_ne hb'] at e; exact r.fh b u e
        · by_cases hb' : b = a
          · subst hb'; exact .inr hb
          · rw [upd_ne hb'] at e; exact r.ext.nw b u e
        · rcases nj p with ⟨e, ec⟩ | ⟨n, p⟩
          · subst e; subst ec
            exact ⟨_, hσ, .lst (SqL.of upd_same) hz (VdAll.mono ff ds xs hd)⟩
          · obtain ⟨u, h1, h2⟩ := r.slot j c p
            refine ⟨u, h1, ?_⟩
            cases c with
            | val d => exact Vd.mono ff d u h2
            | exn c => exact h2
            | own es =>
              obtain ⟨a', xs', ev, hb', hf', hh', hz', hd'⟩ := h2
              subst ev
              refine ⟨a', xs', rfl, hb', ?_, hh', hz', VdAll.mono ff es xs' hd'⟩
              rw [upd_ne]
              · exact hf'
              · intro e
                subst e
                exact r.sep i j _ ds es n q p hσ h1
        · rcases nj q1 with ⟨_, e⟩ | ⟨n1, p1⟩
          · cases e
          · rcases nj q2 with ⟨_, e⟩ | ⟨n2, p2⟩
            · cases e
            · exact r.sep j k b es es' hne p1 p2 q3
end
end PV
end
section
set_option Elab.async false
set_option linter.all false
set_option maxRecDepth 100000
set_option maxHeartbeats 4000000
namespace PV
open PySem PySem.Spec PyProof.Rows L2

/-! ### expressions -/
/-- a result of an expression is taken -/
def Out (X : Cx) (P : Pm) (σ : Sg) (Q : VK) (F H : Hp) (r : RE PyData) : Prop :=
  r.post (fun d => ∀ v H' F', Ext F H F' H' → Vd X.K F' v d → Q v H') (fun c _ => ∀ C H' F', X.mg c = some (.ref C) → Ext F H F' H' → P.W (.ref C) none σ H')
theorem Out.step {X : Cx} {P : Pm} {σ : Sg} {Q : VK} {F H F1 H1 : Hp} {r : RE PyData} (h : Out X P σ Q F H r) (e : Ext F H F1 H1) : Out X P σ Q F1 H1 r :=
  R.post_mono h (fun d q v H' F' e' hv => q v H' F' (e.trans e') hv) (fun c _ q C H' F' hm e' => q C H' F' hm (e.trans e'))
theorem Out.mono {X : Cx} {P : Pm} {σ : Sg} {Q Q' : VK} {F H : Hp} {r : RE PyData} (h : Out X P σ Q F H r) (m : ∀ v H', Q v H' → Q' v H') : Out X P σ Q' F H r :=
  R.post_mono h (fun d q v H' F' e' hv => m _ _ (q v H' F' e' hv)) (fun c _ q => q)
/-- the reading of an expression by its meaning f -/
def tV (X : Cx) (P : Pm) (f : Evn → RE PyData) : TE := fun σ H Q => ∃ ρ F, Rep X.K P ρ F σ H ∧ Out X P σ Q F H (f ρ)
def VE (X : Cx) (P : Pm) (e : Expr) (f : Evn → RE PyData) : Prop := PE X e (tV X P f)
theorem PE_mono {X : Cx} {e : Expr} {t t' : TE} (h : PE X e t) (m : ∀ σ H Q, t' σ H Q → t σ H Q) : PE X e t' := ⟨fun pins s σ H Q I q => h.run pins s σ H Q I (m σ H Q q)⟩
section
variable {X : Cx} {P : Pm} {σ : Sg} {Q : VK} {F H : Hp} {ρ : Evn}
/-- the first part of a meaning is read -/
theorem Out.first {f : Evn → RE PyData} {k : PyData → RE PyData} {Q' : VK} (hR : Rep X.K P ρ F σ H) (h : Out X P σ Q F H ((f ρ).bind k))
    (hq : ∀ d v F1 H1, Ext F H F1 H1 → Vd X.K F1 v d → Rep X.K P ρ F1 σ H1 → Out X P σ Q F1 H1 (k d) → Q' v H1) : tV X P f σ H Q' := by
  refine ⟨ρ, F, hR, ?_⟩
  exact R.post_mono (R.post_bind h) (fun d q v H' F' e hv => hq d v F' H' e hv (hR.step e) (Out.step q e)) (fun c _ q => q)
end

/-! ### names, constants -/
def mGet (i : Nat) (ρ : Evn) : RE PyData := match ρ[i]? with
  | some (some (.val d)) => .ok d
  | _ => .bad
section
variable {X : Cx} {P : Pm} {pos : Pos}
theorem ve_var (i : Nat) {x : Str} (hN : X.N[i]? = some x := by rfl) (hv : Vis X.env.scope x := by first | exact Or.inl rfl | exact Or.inr (Or.inl rfl) | exact Or.inr (Or.inr rfl)) (hd : (x == ("__debug__" : Str)) = false := by decide)
    (hcd : (x == ("__classdict__" : Str)) = false := by decide) : VE X P (.Name x pos) (mGet i) := by
  refine PE_mono (pe_var (i := i) hN hv hd hcd) fun σ H Q h => ?_
  obtain ⟨ρ, F, hR, h⟩ := h
  unfold mGet at h
  split at h
  · rename_i d e
    obtain ⟨v, h1, h2⟩ := hR.slot i _ e
    exact ⟨v, h1, h v H F (Ext.refl hR.fh) h2⟩
  · exact h.elim
def mC (d : PyData) (_ : Evn) : RE PyData := .ok d
theorem ve_int {i : Int} {j : Nat} : VE X P (.Constant (.int i) j pos) (mC (.int i)) := PE_mono pe_int fun σ H Q h => by
  obtain ⟨ρ, F, hR, h⟩ := h
  exact h _ H F (Ext.refl hR.fh) (.int i)
theorem ve_bl {b : Bool} {j : Nat} : VE X P (.Constant (.bool b) j pos) (mC (.bool b)) := PE_mono pe_bl fun σ H Q h => by
  obtain ⟨ρ, F, hR, h⟩ := h
  exact h _ H F (Ext.refl hR.fh) (.bl b)
theorem ve_non {j : Nat} : VE X P (.Constant .none j pos) (mC .none) := PE_mono pe_non fun σ H Q h => by
  obtain ⟨ρ, F, hR, h⟩ := h
  exact h _ H F (Ext.refl hR.fh) .non
theorem ve_str {x : Str} {j : Nat} (hx : PyData.strOk x = true := by decide +kernel) : VE X P (.Constant (.str x) j pos) (mC (.str x)) := PE_mono pe_str fun σ H Q h => by
  obtain ⟨ρ, F, hR, h⟩ := h
  exact h _ H F (Ext.refl hR.fh) (.str x hx)
end

/-! ### operators by data -/
/-- an operator of two values, by its meaning g -/
def OpV (X : Cx) (f : Value → Value → Sem Value) (g : PyData → PyData → Option PyData) : Prop :=
  ∀ (pins : List (Addr × Obj)) (s : Shared) (σ : Sg) (H : Hp) (x y : V) (v u : Value) (Q : VK), Inv X pins σ H s → RelV x v → RelV y u →
    ∀ (F : Hp) (d e r : PyData), Same F H → Vd X.K F x d → Vd X.K F y e → g d e = some r → (∀ v' H' F', Ext F H F' H' → Vd X.K F' v' r → Q v' H') → wpAny (model X.prog X.w) X.A (f v u) (EP X pins σ Q) X.xe s
def rV (X : Cx) (g : PyData → PyData → Option PyData) : R2 := fun x y H Q => ∃ F d e r, Same F H ∧ Vd X.K F x d ∧ Vd X.K F y e ∧ g d e = some r ∧ ∀ v' H' F', Ext F H F' H' → Vd X.K F' v' r → Q v' H'
theorem OpV.r {X : Cx} {f : Value → Value → Sem Value} {g : PyData → PyData → Option PyData} (h : OpV X f g) : OpR X f (rV X g) :=
  fun pins s σ H x y v u Q I rx ry ⟨F, d, e, r, sf, hx, hy, hg, hq⟩ => h pins s σ H x y v u Q I rx ry F d e r sf hx hy hg hq
def m2 (g : PyData → PyData → Option PyData) (fa fb : Evn → RE PyData) (ρ : Evn) : RE PyData := (fa ρ).bind fun x => (fb ρ).bind fun y => ofO (g x y)
section
variable {X : Cx} {P : Pm} {pos : Pos} {a b c : Expr} {fa fb fc : Evn → RE PyData} {g : PyData → PyData → Option PyData}
theorem Out.ofO {σ : Sg} {Q : VK} {F H : Hp} {o : Option PyData} (h : Out X P σ Q F H (ofO o)) : ∃ r, o = some r ∧ ∀ v' H' F', Ext F H F' H' → Vd X.K F' v' r → Q v' H' := by
  cases o with
  | some r => exact ⟨r, rfl, h⟩
  | none => exact h.elim
theorem rd2 {σ : Sg} {H : Hp} {Q : VK} (h : tV X P (m2 g fa fb) σ H Q) : tOp (rV X g) (tV X P fa) (tV X P fb) σ H Q := by
  obtain ⟨ρ, F, hR, h⟩ := h
  refine Out.first hR h fun d v F1 H1 e1 hv R1 h1 => ?_
  refine Out.first R1 h1 fun d2 v2 F2 H2 e2 hv2 R2 h2 => ?_
  obtain ⟨r, hr, hq⟩ := h2.ofO
  exact ⟨F2, d, d2, r, R2.fh, Vd.mono e2.ff d v hv, hv2, hr, hq⟩
theorem ve_op {op : Operator} (ho : OpV X (binaryOp op) g) (ha : VE X P a fa) (hb : VE X P b fb) : VE X P (.BinOp a op b pos) (m2 g fa fb) := PE_mono (pe_op ho.r ha hb) fun _ _ _ h => rd2 h
theorem ve_cmp {op : CmpOp} (ho : OpV X (compareOp op) g) (ha : VE X P a fa) (hb : VE X P b fb) (hm : behindInMarks op b = false := by first | exact nomark _ | rfl) : VE X P (.Compare a [op] [b] pos) (m2 g fa fb) := PE_mono (pe_cmpR ho.r ha hb hm) fun _ _ _ h => rd2 h
end

/-! the operators' meanings -/
def b2n (b : Bool) : Int := if b then 1 else 0
/-- two factors whose product is laid -/
def mulOk (i j : Int) : Prop := (-(2 ^ 64) < i ∧ i < 2 ^ 64) ∨ (-(2 ^ 64) < j ∧ j < 2 ^ 64) ∨ i.natAbs.log2 + j.natAbs.log2 < 1000000
instance (i j : Int) : Decidable (mulOk i j) := by unfold mulOk; exact inferInstance
def divOk (j : Int) : Prop := j ≠ 0 ∧ j.natAbs.log2 < 9000
instance (j : Int) : Decidable (divOk j) := by unfold divOk; exact inferInstance
def pAdd : PyData → PyData → Option PyData
  | .int i, .int j => some (.int (i + j))
  | .int i, .bool j => some (.int (i + b2i j))
  | .str x, .str y => if x.length + y.length ≤ sizeLine then some (.str (x ++ y)) else none
  | .list xs, .list ys => if xs.length + ys.length ≤ sizeLine then some (.list (xs ++ ys)) else none
  | .tuple xs, .tuple ys => if xs.length + ys.length ≤ sizeLine then some (.tuple (xs ++ ys)) else none
  | _, _ => none
def pSub : PyData → PyData → Option PyData
  | .int i, .int j => some (.int (i - j))
  | _, _ => none
def pMulI : PyData → PyData → Option PyData
  | .int i, .int j => if mulOk i j then some (.int (i * j)) else none
  | _, _ => none
def pMul : PyData → PyData → Option PyData
  | .int i, .int j => if mulOk i j then some (.int (i * j)) else none
  | .str x, .int j => if j = 1 then some (.str x) else none
  | _, _ => none
def pDiv : PyData → PyData → Option PyData
  | .int i, .int j => if divOk j then some (.int (i.fdiv j)) else none
  | _, _ => none
def pMod : PyData → PyData → Option PyData
  | .int i, .int j => if j ≠ 0 then some (.int (i.fmod j)) else none
  | _, _ => none
def powOk (i j : Int) : Prop := 0 ≤ j ∧ j ≤ 1000000 ∧ i.natAbs < 2 ^ 64
instance (i j : Int) : Decidable (powOk i j) := by unfold powOk; exact inferInstance
def pPow : PyData → PyData → Option PyData
  | .int i, .int j => if powOk i j then some (.int (i ^ j.toNat)) else none
  | _, _ => none
def pShl : PyData → PyData → Option PyData
  | .int i, .int j => if powOk i j then some (.int (i * 2 ^ j.toNat)) else none
  | _, _ => none
def pShr : PyData → PyData → Option PyData
  | .int i, .int j => if 0 ≤ j then some (.int (i / 2 ^ j.toNat)) else none
  | _, _ => none
def pAnd : PyData → PyData → Option PyData
  | .int i, .int j => some (.int (Builtin.bitAnd i j))
  | _, _ => none
def pOr : PyData → PyData → Option PyData
  | .int i, .int j => some (.int (Builtin.bitOr i j))
  | _, _ => none
def pCmp (p : Int → Int → Bool) : PyData → PyData → Option PyData
  | .int i, .int j => some (.bool (p i j))
  | _, _ => none
abbrev pLt := pCmp fun i j => decide (i < j)
abbrev pLe := pCmp fun i j => decide (i ≤ j)
abbrev pGt := pCmp fun i j => decide (j < i)
abbrev pGe := pCmp fun i j => decide (j ≤ i)
/-- data of a depth that a comparison goes down -/
def eqOk (d e : PyData) : Prop := d.depth ≤ 64 ∨ e.depth ≤ 64
instance (d e : PyData) : Decidable (eqOk d e) := by unfold eqOk; exact inferInstance
def pEq (d e : PyData) : Option PyData := if eqOk d e then some (.bool (PyData.eqv d e)) else none
def pNe (d e : PyData) : Option PyData := if eqOk d e then some (.bool (!PyData.eqv d e)) else none
def isNone : PyData → Bool
  | .none => true
  | _ => false
def pIsN (d e : PyData) : Option PyData := if isNone e then some (.bool (isNone d)) else none
def pIsNotN (d e : PyData) : Option PyData := if isNone e then some (.bool (!isNone d)) else none
section
variable {X : Cx}
theorem some_of_if {α : Type} {p : Prop} [Decidable p] {a r : α} (h : (if p then some a else none) = some r) : p ∧ a = r := by
  by_cases hp : p
  · rw [if_pos hp] at h; exact ⟨hp, Option.some.inj h⟩
  · rw [if_neg hp] at h; cases h
/-- a rule on two ints -/
theorem opI2 {f : Value → Value → Sem Value} {C : Int → Int → Prop} {g : Int → Int → V} {k : Int → Int → PyData} {p : PyData → PyData → Option PyData} (ho : OpR X f (rI C g)) (hk : ∀ F i j, Vd X.K F (g i j) (k i j))
    (hp : ∀ d e r, p d e = some r → ∃ i j, d = .int i ∧ e = .int j ∧ C i j ∧ r = k i j) : OpV X f p := by
  intro pins s σ H x y v u Q I rx ry F d e r sf hx hy hg hq
  obtain ⟨i, j, rfl, rfl, hc, rfl⟩ := hp d e r hg
  cases hx
  cases hy
  exact ho pins s σ H _ _ v u Q I rx ry ⟨i, j, rfl, rfl, hc, hq _ _ F (Ext.refl sf) (hk F i j)⟩
theorem rI0_of {f : Value → Value → Sem Value} {g : Int → Int → V} (ho : OpR X f (rI0 g)) : OpR X f (rI (fun _ _ => True) g) :=
  fun pins s σ H x y v u Q I rx ry ⟨i, j, e1, e2, _, q⟩ => ho pins s σ H x y v u Q I rx ry ⟨i, j, e1, e2, q⟩
theorem op_mulA : OpR X (binaryOp .Mult) (rI mulOk fun i j => .int (i * j)) := by
  intro pins s σ H x y v u Q I rx ry ⟨i, j, e1, e2, hc, q⟩
  rcases hc with hc | hc | hc
  · exact op_mul pins s σ H x y v u Q I rx ry ⟨i, j, e1, e2, .inl hc, q⟩
  · exact op_mul pins s σ H x y v u Q I rx ry ⟨i, j, e1, e2, .inr hc, q⟩
  · exact op_mulW pins s σ H x y v u Q I rx ry ⟨i, j, e1, e2, hc, q⟩
theorem op_divA : OpR X (binaryOp .FloorDiv) (rI (fun _ j => divOk j) fun i j => .int (i.fdiv j)) := opI fun _ _ _ _ _ _ _ hc q => floordiv_int hc.1 q (.inl (PyProof.noPylong_of_log2 hc.2))
/-- a new list or tuple, as a result -/
theorem new_lst {F H : Hp} {Q : VK} {xs : List V} {ds : List PyData} (sf : Same F H) (hz : xs.length ≤ sizeLine) (h : VdAll X.K F xs ds) (hq : ∀ v' H' F', Ext F H F' H' → Vd X.K F' v' (.list ds) → Q v' H') : ∀ p, H p = none → Q (.ref p) (upd H p (.lst xs)) :=
  fun p hp => hq _ _ (upd F p (.lst xs)) (Ext.new sf hp) (.lst (SqL.of upd_same) hz (VdAll.mono (same_upd (sf.free hp)) ds xs h))
theorem new_tup {F H : Hp} {Q : VK} {xs : List V} {ds : List PyData} (sf : Same F H) (hz : xs.length ≤ sizeLine) (h : VdAll X.K F xs ds) (hq : ∀ v' H' F', Ext F H F' H' → Vd X.K F' v' (.tuple ds) → Q v' H') : ∀ p, H p = none → Q (.ref p) (upd H p (.tup xs)) :=
  fun p hp => hq _ _ (upd F p (.tup xs)) (Ext.new sf hp) (.tup (SqT.of upd_same) hz (VdAll.mono (same_upd (sf.free hp)) ds xs h))
/-- list + list, whatever the lists are -/
theorem op_catS : OpR X (binaryOp .Add) (fun x y H Q => ∃ l b xs zs, x = .ref l ∧ y = .ref b ∧ SqL X.K H l xs ∧ SqL X.K H b zs ∧ xs.length + zs.length ≤ sizeLine ∧ ∀ p, H p = none → Q (.ref p) (upd H p (.lst (xs ++ zs)))) := by
  intro pins s σ H x y v u Q I rx ry h
  obtain ⟨l, b, xs, zs, rfl, rfl, hH, hB, hz, q⟩ := h
  cases rx
  cases ry
  obtain ⟨its, r, p1, z1⟩ := I.list hH
  obtain ⟨its2, r2, p2, z2⟩ := I.list hB
  obtain ⟨m, F0⟩ := I.fr
  have l1 := r.length
  have l2 := r2.length
  obtain ⟨⟨cls, dd, data, sl⟩, n, ho, hc, hx, hd⟩ := p1
  obtain ⟨⟨cls2, dd2, data2, sl2⟩, n2, ho2, hc2, hx2, hd2⟩ := p2
  simp only at hc hx hd hc2 hx2 hd2
  subst hc hx hd hc2 hx2 hd2
  have e : its.toArray ++ its2.toArray = (its ++ its2).toArray := by simp
  refine concat_meets ⟨_, ho, rfl⟩ ⟨_, ho2, rfl⟩ noFill_list_add seq_list_add PySem.F.slot_list_add PySem.F.entry_list_add (PySem.F.args_list_add_2 _ _) (list_addW l b its.toArray its2.toArray n n2 none none sl sl2 (by simp only [List.size_toArray]; omega)) ⟨ho, ho2, ?_⟩
  rw [e]
  exact ⟨.ref _, _, I.lnew (t' := s.toks) (r.append r2) (by rw [List.length_append]; omega), rfl, q _ I.fresh⟩
theorem opv_add : OpV X (binaryOp .Add) pAdd := by
  intro pins s σ H x y v u Q I rx ry F d e r sf hx hy hg hq
  cases hx with
  | int i =>
    cases hy with
    | int j =>
      cases hg
      exact op_add pins s σ H _ _ v u Q I rx ry ⟨i, j, rfl, rfl, hq _ _ F (Ext.refl sf) (.int _)⟩
    | bl b =>
      cases hg
      exact op_add_ib pins s σ H _ _ v u Q I rx ry ⟨i, b, rfl, rfl, hq _ _ F (Ext.refl sf) (.int _)⟩
    | _ => cases hg
  | str x hx1 =>
    cases hy with
    | str y hy1 =>
      obtain ⟨hp, rfl⟩ := some_of_if hg
      refine op_add_str pins s σ H _ _ v u Q I rx ry ⟨x, y, rfl, rfl, hp, hq _ _ F (Ext.refl sf) (.str _ ?_)⟩
      show ((x.cps ++ y.cps).all _) = true
      have h1 : x.cps.all (fun c => decide (c < 0x110000)) = true := hx1
      have h2 : y.cps.all (fun c => decide (c < 0x110000)) = true := hy1
      rw [Array.all_append, h1, h2]
      rfl
    | _ => cases hg
  | lst h1 z1 a1 =>
    cases hy with
    | lst h2 z2 a2 =>
      obtain ⟨hp, rfl⟩ := some_of_if hg
      have l1 := a1.length
      have l2 := a2.length
      exact op_catS pins s σ H _ _ v u Q I rx ry ⟨_, _, _, _, rfl, rfl, sf.seq h1, sf.seq h2, by omega, new_lst sf (by rw [List.length_append]; omega) (a1.append a2) hq⟩
    | _ => cases hg
  | tup h1 z1 a1 =>
    cases hy with
    | tup h2 z2 a2 =>
      obtain ⟨hp, rfl⟩ := some_of_if hg
      have l1 := a1.length
      have l2 := a2.length
      refine op_catA pins s σ H _ _ v u Q I rx ry ⟨_, _, _, _, rfl, rfl, same_sqT sf h1, same_sqT sf h2, by omega, fun e => ?_, fun _ e => ?_, fun _ _ => new_tup sf (by rw [List.length_append]; omega) (a1.append a2) hq⟩
      · subst e
        cases a1
        exact hq _ _ F (Ext.refl sf) (.tup h2 z2 a2)
      · subst e
        cases a2
        rw [List.append_nil] at hq
        exact hq _ _ F (Ext.refl sf) (.tup h1 z1 a1)
    | _ => cases hg
  | _ => cases hg
theorem opv_sub : OpV X (binaryOp .Sub) pSub := opI2 (rI0_of op_sub) (fun _ _ _ => .int _) fun d e r h => by
  cases d <;> cases e <;> first | exact ⟨_, _, rfl, rfl, trivial, (Option.some.inj h).symm⟩ | cases h
theorem opv_mulI : OpV X (binaryOp .Mult) pMulI := opI2 op_mulA (fun _ _ _ => .int _) fun d e r h => by
  cases d <;> cases e <;> first | exact ⟨_, _, rfl, rfl, (some_of_if h).1, (some_of_if h).2.symm⟩ | cases h
/-- a text, once -/
theorem op_mulS1 : OpR X (binaryOp .Mult) (fun x y H Q => ∃ i, x = .str i ∧ y = .int 1 ∧ Q (.str i) H) := by
  intro pins s σ H x y v u Q I rx ry h
  obtain ⟨i, rfl, rfl, q⟩ := h
  obtain ⟨t1, rfl⟩ := rx
  obtain ⟨t2, rfl⟩ := ry
  exact P.mul_str rfl (fun _ h => absurd h (by simp)) (fun _ h => absurd h (by simp)) ⟨.str i, H, I, ⟨_, rfl⟩, q⟩
theorem opv_mul : OpV X (binaryOp .Mult) pMul := by
  intro pins s σ H x y v u Q I rx ry F d e r sf hx hy hg hq
  cases hx with
  | str x hx1 =>
    cases hy with
    | int j =>
      obtain ⟨hp, rfl⟩ := some_of_if hg
      subst hp
      exact op_mulS1 pins s σ H _ _ v u Q I rx ry ⟨_, rfl, rfl, hq _ _ F (Ext.refl sf) (.str _ hx1)⟩
    | _ => cases hg
  | int i => exact opv_mulI pins s σ H _ y v u Q I rx ry F _ e r sf (.int i) hy (by cases e <;> exact hg) hq
  | _ => cases hy <;> cases hg
theorem opv_div : OpV X (binaryOp .FloorDiv) pDiv := opI2 op_divA (fun _ _ _ => .int _) fun d e r h => by
  cases d <;> cases e <;> first | exact ⟨_, _, rfl, rfl, (some_of_if h).1, (some_of_if h).2.symm⟩ | cases h
theorem opv_mod : OpV X (binaryOp .Mod) pMod := opI2 op_modN (fun _ _ _ => .int _) fun d e r h => by
  cases d <;> cases e <;> first | exact ⟨_, _, rfl, rfl, (some_of_if h).1, (some_of_if h).2.symm⟩ | cases h
theorem opv_pow : OpV X (binaryOp .Pow) pPow := opI2 op_pow (fun _ _ _ => .int _) fun d e r h => by
  cases d <;> cases e <;> first | exact ⟨_, _, rfl, rfl, (some_of_if h).1, (some_of_if h).2.symm⟩ | cases h
theorem opv_shl : OpV X (binaryOp .LShift) pShl := opI2 op_shl (fun _ _ _ => .int _) fun d e r h => by
  cases d <;> cases e <;> first | exact ⟨_, _, rfl, rfl, (some_of_if h).1, (some_of_if h).2.symm⟩ | cases h
theorem opv_shr : OpV X (binaryOp .RShift) pShr := opI2 op_shr (fun _ _ _ => .int _) fun d e r h => by
  cases d <;> cases e <;> first | exact ⟨_, _, rfl, rfl, (some_of_if h).1, (some_of_if h).2.symm⟩ | cases h
theorem opv_and : OpV X (binaryOp .BitAnd) pAnd := opI2 (rI0_of op_and) (fun _ _ _ => .int _) fun d e r h => by
  cases d <;> cases e <;> first | exact ⟨_, _, rfl, rfl, trivial, (Option.some.inj h).symm⟩ | cases h
theorem opv_or : OpV X (binaryOp .BitOr) pOr := opI2 (rI0_of op_or) (fun _ _ _ => .int _) fun d e r h => by
  cases d <;> cases e <;> first | exact ⟨_, _, rfl, rfl, trivial, (Option.some.inj h).symm⟩ | cases h
theorem opv_lt : OpV X (compareOp .Lt) pLt := opI2 (rI0_of op_lt) (fun _ _ _ => .bl _) fun d e r h => by
  cases d <;> cases e <;> first | exact ⟨_, _, rfl, rfl, trivial, (Option.some.inj h).symm⟩ | cases h
theorem opv_le : OpV X (compareOp .LtE) pLe := opI2 (rI0_of op_le) (fun _ _ _ => .bl _) fun d e r h => by
  cases d <;> cases e <;> first | exact ⟨_, _, rfl, rfl, trivial, (Option.some.inj h).symm⟩ | cases h
theorem opv_gt : OpV X (compareOp .Gt) pGt := opI2 (rI0_of op_gt) (fun _ _ _ => .bl _) fun d e r h => by
  cases d <;> cases e <;> first | exact ⟨_, _, rfl, rfl, trivial, (Option.some.inj h).symm⟩ | cases h
theorem opv_ge : OpV X (compareOp .GtE) pGe := opI2 (rI0_of op_ge) (fun _ _ _ => .bl _) fun d e r h => by
  cases d <;> cases e <;> first | exact ⟨_, _, rfl, rfl, trivial, (Option.some.inj h).symm⟩ | cases h
/-- room for a comparison -/
theorem opv_eq {k : Nat} (hr : Room k X.A) : OpV X (compareOp .Eq) pEq := by
  intro pins s σ H x y v u Q I rx ry F d e r sf hx hy hg hq
  obtain ⟨hp, rfl⟩ := some_of_if hg
  have hx' := Vd.dp d x (Vd.mono sf d x hx)
  have hy' := Vd.dp e y (Vd.mono sf e y hy)
  obtain ⟨as, r1⟩ := Dp.reads I d x v hx'.1 rx
  obtain ⟨bs, r2⟩ := Dp.reads I e y u hy'.1 ry
  have hu := hr.units
  exact SeqAt.compareEq_reads r1 r2 hx'.2 hy'.2 (by rcases hp with h | h <;> omega) ⟨.bl _, H, I, rfl, hq _ _ F (Ext.refl sf) (.bl _)⟩
theorem opv_ne {k : Nat} (hr : Room k X.A) : OpV X (compareOp .NotEq) pNe := by
  intro pins s σ H x y v u Q I rx ry F d e r sf hx hy hg hq
  obtain ⟨hp, rfl⟩ := some_of_if hg
  have hx' := Vd.dp d x (Vd.mono sf d x hx)
  have hy' := Vd.dp e y (Vd.mono sf e y hy)
  obtain ⟨as, r1⟩ := Dp.reads I d x v hx'.1 rx
  obtain ⟨bs, r2⟩ := Dp.reads I e y u hy'.1 ry
  have hu := hr.units
  exact SeqAt.compareNe_reads r1 r2 hx'.2 hy'.2 (by rcases hp with h | h <;> omega) ⟨.bl _, H, I, rfl, hq _ _ F (Ext.refl sf) (.bl _)⟩
theorem isNone_of {F : Hp} {v : V} {d : PyData} (h : Vd X.K F v d) : decide (v = .non) = isNone d := by
  cases h <;> rfl
theorem opv_is : OpV X (compareOp .Is) pIsN := by
  intro pins s σ H x y v u Q I rx ry F d e r sf hx hy hg hq
  obtain ⟨hp, rfl⟩ := some_of_if hg
  have hn : y = .non := by cases hy <;> first | rfl | cases hp
  refine op_isN pins s σ H _ _ v u Q I rx ry ⟨hn, ?_⟩
  rw [isNone_of hx]
  exact hq _ _ F (Ext.refl sf) (.bl _)
theorem opv_isnot : OpV X (compareOp .IsNot) pIsNotN := by
  intro pins s σ H x y v u Q I rx ry F d e r sf hx hy hg hq
  obtain ⟨hp, rfl⟩ := some_of_if hg
  have hn : y = .non := by cases hy <;> first | rfl | cases hp
  refine op_notN pins s σ H _ _ v u Q I rx ry ⟨hn, ?_⟩
  rw [isNone_of hx]
  exact hq _ _ F (Ext.refl sf) (.bl _)
end
end PV
end
section
set_option Elab.async false
set_option linter.all false
set_option maxRecDepth 100000
set_option maxHeartbeats 4000000
namespace PV
open PySem PySem.Spec PyProof.Rows L2

/-! ### tests -/
def OutB (X : Cx) (P : Pm) (σ : Sg) (Q : Bool → Hp → Prop) (F H : Hp) (r : RE Bool) : Prop :=
  r.post (fun b => ∀ H' F', Ext F H F' H' → Q b H') (fun c _ => ∀ C H' F', X.mg c = some (.ref C) → Ext F H F' H' → P.W (.ref C) none σ H')
theorem OutB.step {X : Cx} {P : Pm} {σ : Sg} {Q : Bool → Hp → Prop} {F H F1 H1 : Hp} {r : RE Bool} (h : OutB X P σ Q F H r) (e : Ext F H F1 H1) : OutB X P σ Q F1 H1 r :=
  R.post_mono h (fun d q H' F' e' => q H' F' (e.trans e')) (fun c _ q C H' F' hm e' => q C H' F' hm (e.trans e'))
def tTV (X : Cx) (P : Pm) (f : Evn → RE Bool) : TT := fun σ H Q => ∃ ρ F, Rep X.K P ρ F σ H ∧ OutB X P σ Q F H (f ρ)
def VT (X : Cx) (P : Pm) (e : Expr) (f : Evn → RE Bool) : Prop := PT X e (tTV X P f)
def VW (X : Cx) (P : Pm) (e : Expr) (f : Evn → RE Bool) : Prop := PW X e (tTV X P f)
theorem PT_mono {X : Cx} {e : Expr} {t t' : TT} (h : PT X e t) (m : ∀ σ H Q, t' σ H Q → t σ H Q) : PT X e t' := ⟨fun pins s σ H Q I q => h.run pins s σ H Q I (m σ H Q q)⟩
theorem PW_mono {X : Cx} {e : Expr} {t t' : TT} (h : PW X e t) (m : ∀ σ H Q, t' σ H Q → t σ H Q) : PW X e t' := ⟨fun w pins s σ H Q I q => h.run w pins s σ H Q I (m σ H Q q)⟩
/-- a datum's truth -/
def truth : PyData → Option Bool
  | .none => some false
  | .bool b => some b
  | .int i => some (i != 0)
  | .str x => if x.length ≤ sizeLine then some ((x.length : Int) != 0) else none
  | .list xs => some (!xs.isEmpty)
  | .tuple xs => some (!xs.isEmpty)
  | .dict _ => none
def toB : PyData → Option Bool
  | .bool b => some b
  | _ => none
def mT (f : Evn → RE PyData) (ρ : Evn) : RE Bool := (f ρ).bind fun d => ofO (truth d)
def mB (f : Evn → RE PyData) (ρ : Evn) : RE Bool := (f ρ).bind fun d => ofO (toB d)
section
variable {X : Cx} {P : Pm} {pos : Pos} {a b c : Expr} {fa fb fc : Evn → RE PyData} {ga gb gc : Evn → RE Bool} {σ : Sg} {F H : Hp} {ρ : Evn}
theorem Out.firstB {f : Evn → RE PyData} {k : PyData → RE Bool} {Q : Bool → Hp → Prop} {Q' : VK} (hR : Rep X.K P ρ F σ H) (h : OutB X P σ Q F H ((f ρ).bind k))
    (hq : ∀ d v F1 H1, Ext F H F1 H1 → Vd X.K F1 v d → Rep X.K P ρ F1 σ H1 → OutB X P σ Q F1 H1 (k d) → Q' v H1) : tV X P f σ H Q' := by
  refine ⟨ρ, F, hR, ?_⟩
  exact R.post_mono (R.post_bind h) (fun d q v H' F' e hv => hq d v F' H' e hv (hR.step e) (OutB.step q e)) (fun c _ q => q)
theorem OutB.ofO {Q : Bool → Hp → Prop} {o : Option Bool} (h : OutB X P σ Q F H (ofO o)) : ∃ r, o = some r ∧ ∀ H' F', Ext F H F' H' → Q r H' := by
  cases o with
  | some r => exact ⟨r, rfl, h⟩
  | none => exact h.elim
theorem truV_of {F H : Hp} {v : V} {d : PyData} {k : Bool} (sf : Same F H) (h : Vd X.K F v d) (e : truth d = some k) : TruV X.K v H k := by
  cases h with
  | non => cases e; rfl
  | bl b => cases e; rfl
  | int i => cases e; rfl
  | str x hx =>
    obtain ⟨h1, rfl⟩ := some_of_if e
    exact ⟨h1, rfl⟩
  | lst hs hz ha =>
    cases e
    refine .inl ⟨_, sf.seq hs, ?_⟩
    cases ha <;> rfl
  | tup hs hz ha =>
    cases e
    refine .inr (.inl ⟨_, same_sqT sf hs, ?_⟩)
    cases ha <;> rfl
/-- an expression as a test, by its truth -/
theorem vt_truth (h : VE X P a fa) (he : ∀ whole, isTrue a X.env whole = (do let v ← whole; standAt a.pos; holding [v] (truthy v)) := by intro _; rfl) : VT X P a (mT fa) := PT_mono (pt_truth h he) fun σ H Q h => by
  obtain ⟨ρ, F, hR, h⟩ := h
  refine Out.firstB hR h fun d v F1 H1 e1 hv R1 h1 => ?_
  obtain ⟨r, hr, hq⟩ := h1.ofO
  exact ⟨r, truV_of R1.fh hv hr, hq H1 F1 (Ext.refl R1.fh)⟩
theorem rdB {t : TE} {f : Evn → RE PyData} {σ : Sg} {H : Hp} {Q : Bool → Hp → Prop} (m : ∀ Q, tV X P f σ H Q → t σ H Q) (h : tTV X P (mB f) σ H Q) : t σ H fun x H1 => ∃ c, x = .bl c ∧ Q c H1 := by
  obtain ⟨ρ, F, hR, h⟩ := h
  refine m _ (Out.firstB hR h fun d v F1 H1 e1 hv R1 h1 => ?_)
  obtain ⟨r, hr, hq⟩ := h1.ofO
  cases hv with
  | bl b => cases hr; exact ⟨r, rfl, hq H1 F1 (Ext.refl R1.fh)⟩
  | _ => cases hr
/-- a comparison as a test -/
theorem vt_cmp {op : CmpOp} {g : PyData → PyData → Option PyData} (ho : OpV X (compareOp op) g) (ha : VE X P a fa) (hb : VE X P b fb) (hm : behindInMarks op b = false := by first | exact nomark _ | rfl) : VT X P (.Compare a [op] [b] pos) (mB (m2 g fa fb)) :=
  PT_mono (pt_cmpR ho.r ha hb hm) fun σ H Q h => rdB (t := tOp (rV X g) (tV X P fa) (tV X P fb)) (fun Q => rd2) h
/-- and, or, not -/
def mAndB (fa fb : Evn → RE Bool) (ρ : Evn) : RE Bool := (fa ρ).bind fun c => if c then fb ρ else .ok false
def mOrB (fa fb : Evn → RE Bool) (ρ : Evn) : RE Bool := (fa ρ).bind fun c => if c then .ok true else fb ρ
def mNotB (fa : Evn → RE Bool) (ρ : Evn) : RE Bool := (fa ρ).bind fun c => .ok (!c)
theorem OutB.first {f : Evn → RE Bool} {k : Bool → RE Bool} {Q : Bool → Hp → Prop} {Q' : Bool → Hp → Prop} (hR : Rep X.K P ρ F σ H) (h : OutB X P σ Q F H ((f ρ).bind k))
    (hq : ∀ d F1 H1, Ext F H F1 H1 → Rep X.K P ρ F1 σ H1 → OutB X P σ Q F1 H1 (k d) → Q' d H1) : tTV X P f σ H Q' := by
  refine ⟨ρ, F, hR, ?_⟩
  exact R.post_mono (R.post_bind h) (fun d q H' F' e => hq d F' H' e (hR.step e) (OutB.step q e)) (fun c _ q => q)
variable {rest : List Expr}
theorem vw_and1 (ha : VT X P a ga) : VW X P (.BoolOp .And [a] pos) ga := pw_and1 ha
theorem vw_or1 (ha : VT X P a ga) : VW X P (.BoolOp .Or [a] pos) ga := pw_or1 ha
theorem vw_and (ha : VT X P a ga) (hb : VW X P (.BoolOp .And (b :: rest) pos) gb) : VW X P (.BoolOp .And (a :: b :: rest) pos) (mAndB ga gb) := PW_mono (pw_and ha hb) fun σ H Q h => by
  obtain ⟨ρ, F, hR, h⟩ := h
  refine OutB.first hR h fun d F1 H1 e R1 h1 => ?_
  cases d with
  | true => rw [if_pos rfl]; exact ⟨ρ, F1, R1, by simpa using h1⟩
  | false => rw [if_neg (by decide)]; exact h1 H1 F1 (Ext.refl R1.fh)
theorem vw_or (ha : VT X P a ga) (hb : VW X P (.BoolOp .Or (b :: rest) pos) gb) : VW X P (.BoolOp .Or (a :: b :: rest) pos) (mOrB ga gb) := PW_mono (pw_or ha hb) fun σ H Q h => by
  obtain ⟨ρ, F, hR, h⟩ := h
  refine OutB.first hR h fun d F1 H1 e R1 h1 => ?_
  cases d with
  | true => rw [if_pos rfl]; exact h1 H1 F1 (Ext.refl R1.fh)
  | false => rw [if_neg (by decide)]; exact ⟨ρ, F1, R1, by simpa using h1⟩
theorem VW.t (h : VW X P a ga) : VT X P a ga := PW.pt h
theorem vt_not (ha : VT X P a ga) : VT X P (.UnaryOp .Not a pos) (mNotB ga) := PT_mono (pt_not ha) fun σ H Q h => by
  obtain ⟨ρ, F, hR, h⟩ := h
  exact OutB.first hR h fun d F1 H1 e R1 h1 => h1 H1 F1 (Ext.refl R1.fh)
/-- .. as values, of bools -/
def mAnd (fa fb : Evn → RE PyData) (ρ : Evn) : RE PyData := (fa ρ).bind fun d => (ofO (toB d)).bind fun c => if c then fb ρ else .ok (.bool false)
def mOr (fa fb : Evn → RE PyData) (ρ : Evn) : RE PyData := (fa ρ).bind fun d => (ofO (toB d)).bind fun c => if c then .ok (.bool true) else fb ρ
def pNot : PyData → Option PyData
  | .bool b => some (.bool !b)
  | _ => none
def m1 (g : PyData → Option PyData) (fa : Evn → RE PyData) (ρ : Evn) : RE PyData := (fa ρ).bind fun d => ofO (g d)
theorem toB_of {F : Hp} {v : V} {d : PyData} (hv : Vd X.K F v d) {Q : VK} {k : Bool → RE PyData} (h : Out X P σ Q F H ((ofO (toB d)).bind k)) : ∃ c, v = .bl c ∧ Out X P σ Q F H (k c) := by
  cases hv with
  | bl b => exact ⟨b, rfl, h⟩
  | _ => exact h.elim
theorem ve_one {op : BoolOp} (h : VE X P a fa) : VE X P (.BoolOp op [a] pos) fa := pe_one h
theorem ve_and (ha : VE X P a fa) (hb : VE X P (.BoolOp .And (b :: rest) pos) fb) : VE X P (.BoolOp .And (a :: b :: rest) pos) (mAnd fa fb) := PE_mono (pe_and ha hb) fun σ H Q h => by
  obtain ⟨ρ, F, hR, h⟩ := h
  refine Out.first hR h fun d v F1 H1 e1 hv R1 h1 => ?_
  obtain ⟨c, rfl, h2⟩ := toB_of hv h1
  refine ⟨c, rfl, ?_⟩
  cases c with
  | true => rw [if_pos rfl]; exact ⟨ρ, F1, R1, by simpa using h2⟩
  | false => rw [if_neg (by decide)]; exact h2 _ H1 F1 (Ext.refl R1.fh) (.bl _)
theorem ve_or (ha : VE X P a fa) (hb : VE X P (.BoolOp .Or (b :: rest) pos) fb) : VE X P (.BoolOp .Or (a :: b :: rest) pos) (mOr fa fb) := PE_mono (pe_or ha hb) fun σ H Q h => by
  obtain ⟨ρ, F, hR, h⟩ := h
  refine Out.first hR h fun d v F1 H1 e1 hv R1 h1 => ?_
  obtain ⟨c, rfl, h2⟩ := toB_of hv h1
  refine ⟨c, rfl, ?_⟩
  cases c with
  | true => rw [if_pos rfl]; exact h2 _ H1 F1 (Ext.refl R1.fh) (.bl _)
  | false => rw [if_neg (by decide)]; exact ⟨ρ, F1, R1, by simpa using h2⟩
theorem ve_not (ha : VE X P a fa) : VE X P (.UnaryOp .Not a pos) (m1 pNot fa) := PE_mono (pe_not ha) fun σ H Q h => by
  obtain ⟨ρ, F, hR, h⟩ := h
  refine Out.first hR h fun d v F1 H1 e1 hv R1 h1 => ?_
  obtain ⟨r, hr, hq⟩ := h1.ofO
  cases hv with
  | bl b => cases hr; exact ⟨b, rfl, hq _ H1 F1 (Ext.refl R1.fh) (.bl _)⟩
  | _ => cases hr
def pNeg : PyData → Option PyData
  | .int i => some (.int (-i))
  | _ => none
theorem ve_neg (ha : VE X P a fa) : VE X P (.UnaryOp .USub a pos) (m1 pNeg fa) := PE_mono (pe_un un_neg ha) fun σ H Q h => by
  obtain ⟨ρ, F, hR, h⟩ := h
  refine Out.first hR h fun d v F1 H1 e1 hv R1 h1 => ?_
  obtain ⟨r, hr, hq⟩ := h1.ofO
  cases hv with
  | int b => cases hr; exact ⟨b, rfl, hq _ H1 F1 (Ext.refl R1.fh) (.int _)⟩
  | _ => cases hr
def mIf (fc : Evn → RE Bool) (fa fb : Evn → RE PyData) (ρ : Evn) : RE PyData := (fc ρ).bind fun c => if c then fa ρ else fb ρ
theorem OutB.firstV {f : Evn → RE Bool} {k : Bool → RE PyData} {Q : VK} {Q' : Bool → Hp → Prop} (hR : Rep X.K P ρ F σ H) (h : Out X P σ Q F H ((f ρ).bind k))
    (hq : ∀ d F1 H1, Ext F H F1 H1 → Rep X.K P ρ F1 σ H1 → Out X P σ Q F1 H1 (k d) → Q' d H1) : tTV X P f σ H Q' := by
  refine ⟨ρ, F, hR, ?_⟩
  exact R.post_mono (R.post_bind h) (fun d q H' F' e => hq d F' H' e (hR.step e) (Out.step q e)) (fun c _ q => q)
theorem ve_ifExp (hc : VT X P c gc) (ha : VE X P a fa) (hb : VE X P b fb) : VE X P (.IfExp c a b pos) (mIf gc fa fb) := PE_mono (pe_ifExp hc ha hb) fun σ H Q h => by
  obtain ⟨ρ, F, hR, h⟩ := h
  refine OutB.firstV hR h fun d F1 H1 e R1 h1 => ?_
  cases d with
  | true => rw [if_pos rfl]; exact ⟨ρ, F1, R1, by simpa using h1⟩
  | false => rw [if_neg (by decide)]; exact ⟨ρ, F1, R1, by simpa using h1⟩
/-- a op b op' c -/
def mChain (g g' : PyData → PyData → Option PyData) (fa fb fc : Evn → RE PyData) (ρ : Evn) : RE PyData :=
  (fa ρ).bind fun x => (fb ρ).bind fun y => (ofO (g x y)).bind fun z => (ofO (toB z)).bind fun k => if k then (fc ρ).bind fun w => ofO (g' y w) else .ok (.bool false)
theorem rdChain {g g' : PyData → PyData → Option PyData} {σ : Sg} {H : Hp} {Q : VK} (h : tV X P (mChain g g' fa fb fc) σ H Q) : tChain (rV X g) (rV X g') (tV X P fa) (tV X P fb) (tV X P fc) σ H Q := by
  obtain ⟨ρ, F, hR, h⟩ := h
  refine Out.first hR h fun d v F1 H1 e1 hv R1 h1 => ?_
  refine Out.first R1 h1 fun d2 v2 F2 H2 e2 hv2 R2 h2 => ?_
  cases hg : g d d2 with
  | none => rw [hg] at h2; exact h2.elim
  | some z =>
    rw [hg] at h2
    refine ⟨F2, d, d2, z, R2.fh, Vd.mono e2.ff d v hv, hv2, hg, fun v' H' F' e3 hv3 => ?_⟩
    obtain ⟨k, rfl, h3⟩ := toB_of hv3 (Out.step h2 e3)
    refine ⟨k, rfl, ?_⟩
    have R3 := R2.step e3
    cases k with
    | false => rw [if_neg (by decide)]; exact h3 _ H' F' (Ext.refl R3.fh) (.bl _)
    | true =>
      rw [if_pos rfl]
      have h3' : Out X P σ Q F' H' ((fc ρ).bind fun w => ofO (g' d2 w)) := h3
      refine Out.first R3 h3' fun d3 v3 F3 H3 e4 hv4 R4 h4 => ?_
      obtain ⟨r, hr, hq⟩ := h4.ofO
      exact ⟨F3, d2, d3, r, R4.fh, Vd.mono e4.ff d2 v2 (Vd.mono e3.ff d2 v2 hv2), hv4, hr, hq⟩
theorem ve_chain {op op' : CmpOp} {g g' : PyData → PyData → Option PyData} (ho : OpV X (compareOp op) g) (ho' : OpV X (compareOp op') g') (ha : VE X P a fa) (hb : VE X P b fb) (hc : VE X P c fc)
    (hm : lastMarks [op, op'] [b, c] = false := by with_unfolding_all rfl) : VE X P (.Compare a [op, op'] [b, c] pos) (mChain g g' fa fb fc) := PE_mono (pe_chain ho.r ho'.r ha hb hc hm) fun _ _ _ h => rdChain h
theorem vt_chain {op op' : CmpOp} {g g' : PyData → PyData → Option PyData} (ho : OpV X (compareOp op) g) (ho' : OpV X (compareOp op') g') (ha : VE X P a fa) (hb : VE X P b fb) (hc : VE X P c fc)
    (hm : lastMarks [op, op'] [b, c] = false := by with_unfolding_all rfl) : VT X P (.Compare a [op, op'] [b, c] pos) (mB (mChain g g' fa fb fc)) :=
  PT_mono (pt_chain ho.r ho'.r ha hb hc hm) fun σ H Q h => rdB (t := tChain (rV X g) (rV X g') (tV X P fa) (tV X P fb) (tV X P fc)) (fun Q => rdChain) h
end

/-! ### argument lists, displays -/
def OutA (X : Cx) (P : Pm) (σ : Sg) (Q : List V → Hp → Prop) (F H : Hp) (r : RE (List PyData)) : Prop :=
  r.post (fun ds => ∀ vs H' F', Ext F H F' H' → VdAll X.K F' vs ds → Q vs H') (fun c _ => ∀ C H' F', X.mg c = some (.ref C) → Ext F H F' H' → P.W (.ref C) none σ H')
theorem OutA.step {X : Cx} {P : Pm} {σ : Sg} {Q : List V → Hp → Prop} {F H F1 H1 : Hp} {r : RE (List PyData)} (h : OutA X P σ Q F H r) (e : Ext F H F1 H1) : OutA X P σ Q F1 H1 r :=
  R.post_mono h (fun d q v H' F' e' hv => q v H' F' (e.trans e') hv) (fun c _ q C H' F' hm e' => q C H' F' hm (e.trans e'))
def tAV (X : Cx) (P : Pm) (f : Evn → RE (List PyData)) : TA := fun σ H Q => ∃ ρ F, Rep X.K P ρ F σ H ∧ OutA X P σ Q F H (f ρ)
def VA (X : Cx) (P : Pm) (es : List Expr) (f : Evn → RE (List PyData)) : Prop := PA X es (tAV X P f)
theorem PA_mono {X : Cx} {e : List Expr} {t t' : TA} (h : PA X e t) (m : ∀ σ H Q, t' σ H Q → t σ H Q) : PA X e t' := ⟨fun pos pins s σ H Q I q => h.run pos pins s σ H Q I (m σ H Q q)⟩
def mNil (_ : Evn) : RE (List PyData) := .ok []
def mCons (f : Evn → RE PyData) (g : Evn → RE (List PyData)) (ρ : Evn) : RE (List PyData) := (f ρ).bind fun d => (g ρ).bind fun ds => .ok (d :: ds)
def mSeq (k : List PyData → RE PyData) (g : Evn → RE (List PyData)) (ρ : Evn) : RE PyData := (g ρ).bind k
section
variable {X : Cx} {P : Pm} {pos : Pos} {e : Expr} {es : List Expr} {f : Evn → RE PyData} {g : Evn → RE (List PyData)} {σ : Sg} {F H : Hp} {ρ : Evn}
theorem Out.firstA {f : Evn → RE PyData} {k : PyData → RE (List PyData)} {Q : List V → Hp → Prop} {Q' : VK} (hR : Rep X.K P ρ F σ H) (h : OutA X P σ Q F H ((f ρ).bind k))
    (hq : ∀ d v F1 H1, Ext F H F1 H1 → Vd X.K F1 v d → Rep X.K P ρ F1 σ H1 → OutA X P σ Q F1 H1 (k d) → Q' v H1) : tV X P f σ H Q' := by
  refine ⟨ρ, F, hR, ?_⟩
  exact R.post_mono (R.post_bind h) (fun d q v H' F' e hv => hq d v F' H' e hv (hR.step e) (OutA.step q e)) (fun c _ q => q)
theorem OutA.first {f : Evn → RE (List PyData)} {k : List PyData → RE (List PyData)} {Q : List V → Hp → Prop} {Q' : List V → Hp → Prop} (hR : Rep X.K P ρ F σ H) (h : OutA X P σ Q F H ((f ρ).bind k))
    (hq : ∀ d v F1 H1, Ext F H F1 H1 → VdAll X.K F1 v d → Rep X.K P ρ F1 σ H1 → OutA X P σ Q F1 H1 (k d) → Q' v H1) : tAV X P f σ H Q' := by
  refine ⟨ρ, F, hR, ?_⟩
  exact R.post_mono (R.post_bind h) (fun d q v H' F' e hv => hq d v F' H' e hv (hR.step e) (OutA.step q e)) (fun c _ q => q)
theorem OutA.firstV {f : Evn → RE (List PyData)} {k : List PyData → RE PyData} {Q : VK} {Q' : List V → Hp → Prop} (hR : Rep X.K P ρ F σ H) (h : Out X P σ Q F H ((f ρ).bind k))
    (hq : ∀ d v F1 H1, Ext F H F1 H1 → VdAll X.K F1 v d → Rep X.K P ρ F1 σ H1 → Out X P σ Q F1 H1 (k d) → Q' v H1) : tAV X P f σ H Q' := by
  refine ⟨ρ, F, hR, ?_⟩
  exact R.post_mono (R.post_bind h) (fun d q v H' F' e hv => hq d v F' H' e hv (hR.step e) (Out.step q e)) (fun c _ q => q)
theorem va_nil : VA X P [] mNil := PA_mono pa_nil fun σ H Q h => by
  obtain ⟨ρ, F, hR, h⟩ := h
  exact h [] H F (Ext.refl hR.fh) .nil
theorem va_cons (he : VE X P e f) (hr : VA X P es g) (hs : starEach (e :: es) X.env = (false, eval e X.env) :: starEach es X.env := by rfl) : VA X P (e :: es) (mCons f g) := PA_mono (pa_cons he hr hs) fun σ H Q h => by
  obtain ⟨ρ, F, hR, h⟩ := h
  refine Out.firstA hR h fun d v F1 H1 e1 hv R1 h1 => ?_
  refine OutA.first R1 h1 fun ds vs F2 H2 e2 hvs R2 h2 => ?_
  exact h2 _ H2 F2 (Ext.refl R2.fh) (.cons (Vd.mono e2.ff d v hv) hvs)
def mTup (ds : List PyData) : RE PyData := if ds.length ≤ sizeLine then .ok (.tuple ds) else .bad
def mLst (ds : List PyData) : RE PyData := if ds.length ≤ sizeLine then .ok (.list ds) else .bad
theorem Out.ite {Q : VK} {p : Prop} [Decidable p] {d : PyData} (h : Out X P σ Q F H (if p then .ok d else .bad)) : p ∧ ∀ v H' F', Ext F H F' H' → Vd X.K F' v d → Q v H' := by
  by_cases hp : p
  · rw [if_pos hp] at h; exact ⟨hp, h⟩
  · rw [if_neg hp] at h; exact h.elim
theorem ve_tup {k : Nat} (h : VA X P es g) : VE X P (.Tuple es k pos) (mSeq mTup g) := PE_mono (pe_tup h) fun σ H Q h => by
  obtain ⟨ρ, F, hR, h⟩ := h
  refine OutA.firstV hR h fun ds vs F1 H1 e1 hv R1 h1 => ?_
  obtain ⟨hp, hq⟩ := Out.ite h1
  have hl := hv.length
  exact ⟨by omega, new_tup R1.fh (by omega) hv hq⟩
theorem ve_lst (h : VA X P es g) : VE X P (.List es pos) (mSeq mLst g) := PE_mono (pe_lst h) fun σ H Q h => by
  obtain ⟨ρ, F, hR, h⟩ := h
  refine OutA.firstV hR h fun ds vs F1 H1 e1 hv R1 h1 => ?_
  obtain ⟨hp, hq⟩ := Out.ite h1
  have hl := hv.length
  exact ⟨by omega, new_lst R1.fh (by omega) hv hq⟩
end

/-! ### subscripts -/
def pIdx : PyData → PyData → Option PyData
  | .list ds, .int i => atI ds i
  | .tuple ds, .int i => atI ds i
  | .str x, .int i => if x.length ≤ sizeLine then (atI x.cps.toList i).map fun c => .str ⟨#[c]⟩ else none
  | _, _ => none
theorem VdAll.at {K : PySem.W.Frag} {F : Hp} {vs : List V} {ds : List PyData} {i : Int} {d : PyData} (h : VdAll K F vs ds) (e : atI ds i = some d) : ∃ v, atI vs i = some v ∧ Vd K F v d := by
  unfold atI at e ⊢
  rw [h.length]
  cases q : ixN ds.length i with
  | none => rw [q] at e; cases e
  | some j =>
    rw [q] at e
    obtain ⟨v, h1, h2⟩ := h.get (i := j) (d := d) e
    exact ⟨v, h1, h2⟩
theorem strOk_at {x : Str} {i : Int} {c : Nat} (h : PyData.strOk x = true) (e : atI x.cps.toList i = some c) : PyData.strOk ⟨#[c]⟩ = true := by
  unfold atI at e
  cases q : ixN x.cps.toList.length i with
  | none => rw [q] at e; cases e
  | some j =>
    rw [q] at e
    have e' : x.cps.toList[j]? = some c := e
    have hm : c ∈ x.cps.toList := List.mem_of_getElem? e'
    have h' : x.cps.all (fun c => decide (c < 0x110000)) = true := h
    rw [← Array.all_toList] at h'
    have h2 := List.all_eq_true.mp h' c hm
    show (#[c] : Array Nat).all (fun c => decide (c < 0x110000)) = true
    simpa using h2
section
variable {X : Cx} {P : Pm} {pos p2 : Pos} {a b : Expr} {fa fb : Evn → RE PyData}
theorem ix_all : IxR X (rV X pIdx) := by
  intro value slice pins s σ H x y v u Q I rx ry h hs
  obtain ⟨F, d, e, r, sf, hx, hy, hg, hq⟩ := h
  cases hx with
  | lst h1 z1 a1 =>
    cases hy with
    | int i =>
      obtain ⟨w, h2, h3⟩ := a1.at hg
      exact ix_list value slice pins s σ H _ _ v u Q I rx ry ⟨_, _, i, w, rfl, rfl, sf.seq h1, h2, hq _ _ F (Ext.refl sf) h3⟩ hs
    | _ => cases hg
  | tup h1 z1 a1 =>
    cases hy with
    | int i =>
      obtain ⟨w, h2, h3⟩ := a1.at hg
      exact ix_tup value slice pins s σ H _ _ v u Q I rx ry ⟨_, _, i, w, rfl, rfl, same_sqT sf h1, h2, hq _ _ F (Ext.refl sf) h3⟩ hs
    | _ => cases hg
  | str x hx1 =>
    cases hy with
    | int i =>
      obtain ⟨hz, hg⟩ : x.length ≤ sizeLine ∧ (atI x.cps.toList i).map (fun c => PyData.str ⟨#[c]⟩) = some r := by
        have hg' : (if x.length ≤ sizeLine then (atI x.cps.toList i).map fun c => PyData.str ⟨#[c]⟩ else none) = some r := hg
        by_cases hp : x.length ≤ sizeLine
        · rw [if_pos hp] at hg'; exact ⟨hp, hg'⟩
        · rw [if_neg hp] at hg'; cases hg'
      cases q : atI x.cps.toList i with
      | none => rw [q] at hg; cases hg
      | some c =>
        rw [q] at hg
        cases hg
        exact ix_str value slice pins s σ H _ _ v u Q I rx ry ⟨x, i, c, rfl, rfl, hz, q, hq _ _ F (Ext.refl sf) (.str _ (strOk_at hx1 q))⟩ hs
    | _ => cases hg
  | _ => cases hg
theorem ve_ix (ha : VE X P a fa) (hb : VE X P b fb) (hs : PlainIx b := by first | exact (fun _ _ => rfl) | (intro _ _; rfl)) : VE X P (.Subscript a b pos) (m2 pIdx fa fb) := PE_mono (pe_ix ix_all ha hb hs) fun _ _ _ h => rd2 h
/-! slices -/
def cutA {α : Type} (xs : List α) (lo hi : Option Int) : List α := (xs.drop (HT.sIx xs.length 0 lo)).take (HT.sIx xs.length xs.length hi - HT.sIx xs.length 0 lo)
theorem VdAll.cut {K : PySem.W.Frag} {F : Hp} {vs : List V} {ds : List PyData} (h : VdAll K F vs ds) (lo hi : Option Int) : VdAll K F (cutV vs lo hi) (cutA ds lo hi) := by
  unfold cutV cutA
  rw [h.length]
  exact (h.drop _).take _
def OutO (X : Cx) (P : Pm) (σ : Sg) (Q : Option Int → Hp → Prop) (F H : Hp) (r : RE (Option Int)) : Prop :=
  r.post (fun o => ∀ H' F', Ext F H F' H' → Q o H') (fun c _ => ∀ C H' F', X.mg c = some (.ref C) → Ext F H F' H' → P.W (.ref C) none σ H')
theorem OutO.step {σ : Sg} {Q : Option Int → Hp → Prop} {F H F1 H1 : Hp} {r : RE (Option Int)} (h : OutO X P σ Q F H r) (e : Ext F H F1 H1) : OutO X P σ Q F1 H1 r :=
  R.post_mono h (fun d q H' F' e' => q H' F' (e.trans e')) (fun c _ q C H' F' hm e' => q C H' F' hm (e.trans e'))
def tOV (X : Cx) (P : Pm) (f : Evn → RE (Option Int)) : TO := fun σ H Q => ∃ ρ F, Rep X.K P ρ F σ H ∧ OutO X P σ Q F H (f ρ)
def VO (X : Cx) (P : Pm) (e : Option Expr) (f : Evn → RE (Option Int)) : Prop := PO X e (tOV X P f)
theorem PO_mono {X : Cx} {e : Option Expr} {t t' : TO} (h : PO X e t) (m : ∀ σ H Q, t' σ H Q → t σ H Q) : PO X e t' := ⟨fun pins s σ H Q I q => h.run pins s σ H Q I (m σ H Q q)⟩
def mNo (_ : Evn) : RE (Option Int) := .ok none
def toI : PyData → Option Int
  | .int i => some i
  | _ => none
def mPart (f : Evn → RE PyData) (ρ : Evn) : RE (Option Int) := (f ρ).bind fun d => (ofO (toI d)).bind fun i => .ok (some i)
theorem vo_none : VO X P none mNo := PO_mono po_none fun σ H Q h => by
  obtain ⟨ρ, F, hR, h⟩ := h
  exact h H F (Ext.refl hR.fh)
theorem Out.firstO {σ : Sg} {F H : Hp} {ρ : Evn} {f : Evn → RE PyData} {k : PyData → RE (Option Int)} {Q : Option Int → Hp → Prop} {Q' : VK} (hR : Rep X.K P ρ F σ H) (h : OutO X P σ Q F H ((f ρ).bind k))
    (hq : ∀ d v F1 H1, Ext F H F1 H1 → Vd X.K F1 v d → Rep X.K P ρ F1 σ H1 → OutO X P σ Q F1 H1 (k d) → Q' v H1) : tV X P f σ H Q' := by
  refine ⟨ρ, F, hR, ?_⟩
  exact R.post_mono (R.post_bind h) (fun d q v H' F' e hv => hq d v F' H' e hv (hR.step e) (OutO.step q e)) (fun c _ q => q)
theorem OutO.firstV {σ : Sg} {F H : Hp} {ρ : Evn} {f : Evn → RE (Option Int)} {k : Option Int → RE PyData} {Q : VK} {Q' : Option Int → Hp → Prop} (hR : Rep X.K P ρ F σ H) (h : Out X P σ Q F H ((f ρ).bind k))
    (hq : ∀ d F1 H1, Ext F H F1 H1 → Rep X.K P ρ F1 σ H1 → Out X P σ Q F1 H1 (k d) → Q' d H1) : tOV X P f σ H Q' := by
  refine ⟨ρ, F, hR, ?_⟩
  exact R.post_mono (R.post_bind h) (fun d q H' F' e => hq d F' H' e (hR.step e) (Out.step q e)) (fun c _ q => q)
theorem vo_some (h : VE X P a fa) : VO X P (some a) (mPart fa) := PO_mono (po_some h) fun σ H Q h => by
  obtain ⟨ρ, F, hR, h⟩ := h
  refine Out.firstO hR h fun d v F1 H1 e1 hv R1 h1 => ?_
  cases hv with
  | int i => exact ⟨i, rfl, h1 H1 F1 (Ext.refl R1.fh)⟩
  | _ => exact h1.elim
def pCut (d : PyData) (lo hi : Option Int) : Option PyData := match d with
  | .list ds => some (.list (cutA ds lo hi))
  | .tuple ds => some (.tuple (cutA ds lo hi))
  | _ => none
def mCut (f : Evn → RE PyData) (l h : Evn → RE (Option Int)) (ρ : Evn) : RE PyData := (f ρ).bind fun d => (l ρ).bind fun lo => (h ρ).bind fun hi => ofO (pCut d lo hi)
def rCutV (X : Cx) : V → Option Int → Option Int → Hp → VK → Prop := fun x lo hi H Q => ∃ F d r, Same F H ∧ Vd X.K F x d ∧ pCut d lo hi = some r ∧ ∀ v' H' F', Ext F H F' H' → Vd X.K F' v' r → Q v' H'
theorem sl_all : SlR X (rCutV X) := by
  intro pins s σ H x v vl vu lo hi sl Q I rx hs pl pu h
  obtain ⟨F, d, r, sf, hx, hg, hq⟩ := h
  cases hx with
  | lst h1 z1 a1 =>
    cases hg
    exact sl_list pins s σ H _ v vl vu lo hi sl Q I rx hs pl pu ⟨_, _, rfl, sf.seq h1, new_lst sf (Nat.le_trans (cutV_length _ lo hi) z1) (a1.cut lo hi) hq⟩
  | @tup a xs ds h1 z1 a1 =>
    cases hg
    refine sl_tupA pins s σ H _ v vl vu lo hi sl Q I rx hs pl pu ⟨_, _, rfl, same_sqT sf h1, fun e => ?_, fun _ => new_tup sf (Nat.le_trans (cutV_length _ lo hi) z1) (a1.cut lo hi) hq⟩
    refine hq _ _ F (Ext.refl sf) (.tup h1 z1 ?_)
    have e2 : cutA ds lo hi = ds := by
      have hl := a1.length
      unfold cutA
      rw [← hl, e.1, e.2, List.drop_zero, Nat.sub_zero, hl, List.take_length]
    rw [e2]
    exact a1
  | _ => cases hg
theorem ve_cut {lo hi : Option Expr} {l h : Evn → RE (Option Int)} (ha : VE X P a fa) (hl : VO X P lo l) (hh : VO X P hi h) : VE X P (.Subscript a (.Slice lo hi none p2) pos) (mCut fa l h) := PE_mono (pe_slice sl_all ha hl hh) fun σ H Q h => by
  obtain ⟨ρ, F, hR, h⟩ := h
  refine Out.first hR h fun d v F1 H1 e1 hv R1 h1 => ?_
  refine OutO.firstV R1 h1 fun lo F2 H2 e2 R2 h2 => ?_
  refine OutO.firstV R2 h2 fun hi F3 H3 e3 R3 h3 => ?_
  obtain ⟨r, hr, hq⟩ := h3.ofO
  exact ⟨F3, d, r, R3.fh, Vd.mono (e2.trans e3).ff d v hv, hr, hq⟩
end
end PV
end
section
set_option Elab.async false
set_option linter.all false
set_option maxRecDepth 100000
set_option maxHeartbeats 4000000
namespace PV
open PySem PySem.Spec PyProof.Rows L2

/-! ### built-in functions by data -/
def rCV (X : Cx) (g : List PyData → Option PyData) : List V → Hp → VK → Prop := fun xs H Q => ∃ F ds r, Same F H ∧ VdAll X.K F xs ds ∧ g ds = some r ∧ ∀ v' H' F', Ext F H F' H' → Vd X.K F' v' r → Q v' H'
def mCall (g : List PyData → Option PyData) (fa : Evn → RE (List PyData)) (ρ : Evn) : RE PyData := (fa ρ).bind fun ds => ofO (g ds)
section
variable {X : Cx} {P : Pm} {pos p : Pos} {e : Expr} {es : List Expr} {fa : Evn → RE (List PyData)} {g : List PyData → Option PyData} {x : Str} {id T : String}
theorem rdCall {σ : Sg} {H : Hp} {Q : VK} (h : tV X P (mCall g fa) σ H Q) : tCB (rCV X g) (tAV X P fa) σ H Q := by
  obtain ⟨ρ, F, hR, h⟩ := h
  refine OutA.firstV hR h fun ds vs F1 H1 e1 hv R1 h1 => ?_
  obtain ⟨r, hr, hq⟩ := h1.ofO
  exact ⟨F1, ds, r, R1.fh, hv, hr, hq⟩
theorem ve_callB (hc : CallR X (.builtin id) (rCV X g)) (hg : Gl X x) (hm : X.mg x = none) (hv : bootBuiltins x = some (.builtin id)) (ha : VA X P (e :: es) fa) (hn : x ≠ "__name__" := by decide) (hdb : (x == ("__debug__" : Str)) = false := by decide)
    (he : starEach (e :: es) X.env = (false, eval e X.env) :: starEach es X.env := by rfl) (hpl : (backTo pos (starEach es X.env)).any (·.1) = false := by rfl) : VE X P (.Call (.Name x p) (e :: es) [] pos) (mCall g fa) :=
  PE_mono (pe_callB hc hg hm hv ha hn hdb he hpl) fun _ _ _ h => rdCall h
theorem ve_callTy (hc : CallR X (.type T) (rCV X g)) (hg : Gl X x) (hm : X.mg x = none) (hv : bootBuiltins x = some (.type T)) (ha : VA X P (e :: es) fa) (hn : x ≠ "__name__" := by decide) (hdb : (x == ("__debug__" : Str)) = false := by decide)
    (he : starEach (e :: es) X.env = (false, eval e X.env) :: starEach es X.env := by rfl) (hpl : (backTo pos (starEach es X.env)).any (·.1) = false := by rfl) : VE X P (.Call (.Name x p) (e :: es) [] pos) (mCall g fa) :=
  PE_mono (pe_callTy hc hg hm hv ha hn hdb he hpl) fun _ _ _ h => rdCall h
/-- a module's name for a built-in function (gcd) -/
theorem ve_callBfun (hc : CallR X (.builtin id) (rCV X g)) (hg : Gl X x) (hm : X.mg x = some (.builtin id)) (ha : VA X P (e :: es) fa) (hdb : (x == ("__debug__" : Str)) = false := by decide)
    (he : starEach (e :: es) X.env = (false, eval e X.env) :: starEach es X.env := by rfl) (hpl : (backTo pos (starEach es X.env)).any (·.1) = false := by rfl) : VE X P (.Call (.Name x p) (e :: es) [] pos) (mCall g fa) :=
  PE_mono (pe_callBfun hc hg hm ha hdb he hpl) fun _ _ _ h => rdCall h
end

/-! the meanings -/
def bLen : List PyData → Option PyData
  | [.list ds] => some (.int ds.length)
  | [.tuple ds] => some (.int ds.length)
  | [.str x] => if x.length ≤ sizeLine then some (.int x.length) else none
  | _ => none
def bInt : List PyData → Option PyData
  | [.int i] => some (.int i)
  | [.bool b] => some (.int (if b then 1 else 0))
  | _ => none
def bAbs : List PyData → Option PyData
  | [.int i] => some (.int (if i < 0 then -i else i))
  | _ => none
def bGcd : List PyData → Option PyData
  | [.int a, .int b] => some (.int ((Nat.gcd a.natAbs b.natAbs : Nat) : Int))
  | _ => none
def ints? : List PyData → Option (List Int)
  | [] => some []
  | .int i :: r => (ints? r).map (i :: ·)
  | _ => none
def bools? : List PyData → Option (List Bool)
  | [] => some []
  | .bool i :: r => (bools? r).map (i :: ·)
  | _ => none
theorem ints?_map (ns : List Int) : ints? (ns.map .int) = some ns := by
  induction ns with
  | nil => rfl
  | cons n r ih => simp only [List.map_cons, ints?, ih, Option.map_some]
theorem bools?_map (ns : List Bool) : bools? (ns.map .bool) = some ns := by
  induction ns with
  | nil => rfl
  | cons n r ih => simp only [List.map_cons, bools?, ih, Option.map_some]
theorem ints?_eq : ∀ {ds : List PyData} {ns : List Int}, ints? ds = some ns → ds = ns.map .int
  | [], _, h => by cases h; rfl
  | .int i :: r, ns, h => by
    cases q : ints? r with
    | none => simp [ints?, q] at h
    | some ms =>
      simp only [ints?, q, Option.map_some, Option.some.injEq] at h
      subst h
      rw [ints?_eq q]; rfl
  | .none :: r, _, h => nomatch h
  | .bool _ :: r, _, h => nomatch h
  | .str _ :: r, _, h => nomatch h
  | .list _ :: r, _, h => nomatch h
  | .tuple _ :: r, _, h => nomatch h
  | .dict _ :: r, _, h => nomatch h
theorem bools?_eq : ∀ {ds : List PyData} {ns : List Bool}, bools? ds = some ns → ds = ns.map .bool
  | [], _, h => by cases h; rfl
  | .bool i :: r, ns, h => by
    cases q : bools? r with
    | none => simp [bools?, q] at h
    | some ms =>
      simp only [bools?, q, Option.map_some, Option.some.injEq] at h
      subst h
      rw [bools?_eq q]; rfl
  | .none :: r, _, h => nomatch h
  | .int _ :: r, _, h => nomatch h
  | .str _ :: r, _, h => nomatch h
  | .list _ :: r, _, h => nomatch h
  | .tuple _ :: r, _, h => nomatch h
  | .dict _ :: r, _, h => nomatch h
theorem VdAll.ints {K : PySem.W.Frag} {F : Hp} : ∀ {ns : List Int} {vs : List V}, VdAll K F vs (ns.map .int) → vs = ns.map V.int
  | [], _, h => by cases h; rfl
  | n :: r, _, h => by
    cases h with
    | cons h1 h2 => cases h1; rw [VdAll.ints h2]; rfl
theorem VdAll.bools {K : PySem.W.Frag} {F : Hp} : ∀ {ns : List Bool} {vs : List V}, VdAll K F vs (ns.map .bool) → vs = ns.map V.bl
  | [], _, h => by cases h; rfl
  | n :: r, _, h => by
    cases h with
    | cons h1 h2 => cases h1; rw [VdAll.bools h2]; rfl
def bSum : List PyData → Option PyData
  | [.list ds] => (ints? ds).map fun ns => .int ns.sum
  | _ => none
def bAny : List PyData → Option PyData
  | [.list ds] => (bools? ds).map fun ns => .bool (ns.any id)
  | _ => none
def bAll : List PyData → Option PyData
  | [.list ds] => (bools? ds).map fun ns => .bool (ns.all id)
  | _ => none
/-- the greatest, the least -/
def lmax : List Int → Option Int
  | [] => none
  | n :: r => some (r.foldl max n)
def lmin : List Int → Option Int
  | [] => none
  | n :: r => some (r.foldl min n)
theorem foldl_max (r : List Int) : ∀ n : Int, (r.foldl max n = n ∨ r.foldl max n ∈ r) ∧ n ≤ r.foldl max n ∧ ∀ y ∈ r, y ≤ r.foldl max n := by
  induction r with
  | nil => intro n; simp
  | cons a r ih =>
    intro n
    obtain ⟨h1, h2, h3⟩ := ih (max n a)
    simp only [List.foldl_cons]
    refine ⟨?_, by omega, fun y hy => ?_⟩
    · rcases h1 with h1 | h1
      · rw [h1]
        rcases Int.le_total n a with q | q
        · right; rw [Int.max_eq_right q]; exact List.mem_cons_self
        · left; exact Int.max_eq_left q
      · right; exact List.mem_cons_of_mem _ h1
    · rcases List.mem_cons.mp hy with rfl | hy
      · omega
      · exact h3 y hy
theorem foldl_min (r : List Int) : ∀ n : Int, (r.foldl min n = n ∨ r.foldl min n ∈ r) ∧ r.foldl min n ≤ n ∧ ∀ y ∈ r, r.foldl min n ≤ y := by
  induction r with
  | nil => intro n; simp
  | cons a r ih =>
    intro n
    obtain ⟨h1, h2, h3⟩ := ih (min n a)
    simp only [List.foldl_cons]
    refine ⟨?_, by omega, fun y hy => ?_⟩
    · rcases h1 with h1 | h1
      · rw [h1]
        rcases Int.le_total n a with q | q
        · left; exact Int.min_eq_left q
        · right; rw [Int.min_eq_right q]; exact List.mem_cons_self
      · right; exact List.mem_cons_of_mem _ h1
    · rcases List.mem_cons.mp hy with rfl | hy
      · omega
      · exact h3 y hy
theorem lmax_mem {ns : List Int} {m : Int} (h : lmax ns = some m) : m ∈ ns ∧ ∀ y ∈ ns, y ≤ m := by
  cases ns with
  | nil => cases h
  | cons n r =>
    cases h
    obtain ⟨h1, h2, h3⟩ := foldl_max r n
    refine ⟨?_, fun y hy => ?_⟩
    · rcases h1 with q | q
      · rw [q]; exact List.mem_cons_self
      · exact List.mem_cons_of_mem _ q
    · rcases List.mem_cons.mp hy with rfl | hy
      · exact h2
      · exact h3 y hy
theorem lmin_mem {ns : List Int} {m : Int} (h : lmin ns = some m) : m ∈ ns ∧ ∀ y ∈ ns, m ≤ y := by
  cases ns with
  | nil => cases h
  | cons n r =>
    cases h
    obtain ⟨h1, h2, h3⟩ := foldl_min r n
    refine ⟨?_, fun y hy => ?_⟩
    · rcases h1 with q | q
      · rw [q]; exact List.mem_cons_self
      · exact List.mem_cons_of_mem _ q
    · rcases List.mem_cons.mp hy with rfl | hy
      · exact h2
      · exact h3 y hy
theorem lmax_of {ns : List Int} {m : Int} (h1 : m ∈ ns) (h2 : ∀ y ∈ ns, y ≤ m) : lmax ns = some m := by
  cases ns with
  | nil => cases h1
  | cons n r =>
    have h := lmax_mem (ns := n :: r) (m := r.foldl max n) rfl
    have a := h2 _ h.1
    have b := h.2 _ h1
    exact congrArg some (Int.le_antisymm a b)
theorem lmin_of {ns : List Int} {m : Int} (h1 : m ∈ ns) (h2 : ∀ y ∈ ns, m ≤ y) : lmin ns = some m := by
  cases ns with
  | nil => cases h1
  | cons n r =>
    have h := lmin_mem (ns := n :: r) (m := r.foldl min n) rfl
    have a := h2 _ h.1
    have b := h.2 _ h1
    exact congrArg some (Int.le_antisymm b a)
def bMax : List PyData → Option PyData
  | [.int i, .int j] => some (.int (if j > i then j else i))
  | [.list ds] => (ints? ds).bind fun ns => (lmax ns).map .int
  | _ => none
def bMin : List PyData → Option PyData
  | [.int i, .int j] => some (.int (if j < i then j else i))
  | [.list ds] => (ints? ds).bind fun ns => (lmin ns).map .int
  | _ => none
def bList : List PyData → Option PyData
  | [.list ds] => some (.list ds)
  | [.tuple ds] => some (.list ds)
  | _ => none
def bTuple : List PyData → Option PyData
  | [.list ds] => some (.tuple ds)
  | [.tuple ds] => some (.tuple ds)
  | _ => none
section
variable {X : Cx}
theorem vd1 {K : PySem.W.Frag} {F : Hp} {vs : List V} {d : PyData} (h : VdAll K F vs [d]) : ∃ v, vs = [v] ∧ Vd K F v d := by
  cases h with
  | cons h1 h2 => cases h2; exact ⟨_, rfl, h1⟩
theorem vd2 {K : PySem.W.Frag} {F : Hp} {vs : List V} {d e : PyData} (h : VdAll K F vs [d, e]) : ∃ v u, vs = [v, u] ∧ Vd K F v d ∧ Vd K F u e := by
  cases h with
  | cons h1 h2 =>
    obtain ⟨u, rfl, h3⟩ := vd1 h2
    exact ⟨_, u, rfl, h1, h3⟩
theorem cb_len : CallR X (.builtin "len") (rCV X bLen) := by
  intro pins s σ H xs us Q I r h
  obtain ⟨F, ds, d, sf, hv, hg, hq⟩ := h
  unfold bLen at hg
  split at hg
  · cases hg
    obtain ⟨v, rfl, h1⟩ := vd1 hv
    cases h1 with
    | lst hs hz ha =>
      refine call_len_seq pins s σ H _ us Q I r ⟨_, _, rfl, .inl (sf.seq hs), ?_⟩
      rw [ha.length]; exact hq _ _ F (Ext.refl sf) (.int _)
  · cases hg
    obtain ⟨v, rfl, h1⟩ := vd1 hv
    cases h1 with
    | tup hs hz ha =>
      refine call_len_seq pins s σ H _ us Q I r ⟨_, _, rfl, .inr (same_sqT sf hs), ?_⟩
      rw [ha.length]; exact hq _ _ F (Ext.refl sf) (.int _)
  · obtain ⟨hp, rfl⟩ := some_of_if hg
    obtain ⟨v, rfl, h1⟩ := vd1 hv
    cases h1 with
    | str _ hx => exact call_len_str pins s σ H _ us Q I r ⟨_, rfl, hp, hq _ _ F (Ext.refl sf) (.int _)⟩
  · cases hg
theorem cb_int : CallR X (.type "int") (rCV X bInt) := by
  intro pins s σ H xs us Q I r h
  obtain ⟨F, ds, d, sf, hv, hg, hq⟩ := h
  unfold bInt at hg
  split at hg
  · cases hg
    obtain ⟨v, rfl, h1⟩ := vd1 hv
    cases h1
    exact call_int1 pins s σ H _ us Q I r (.inl ⟨_, rfl, hq _ _ F (Ext.refl sf) (.int _)⟩)
  · cases hg
    obtain ⟨v, rfl, h1⟩ := vd1 hv
    cases h1
    exact call_int1 pins s σ H _ us Q I r (.inr ⟨_, rfl, hq _ _ F (Ext.refl sf) (.int _)⟩)
  · cases hg
theorem cb_abs : CallR X (.builtin "abs") (rCV X bAbs) := by
  intro pins s σ H xs us Q I r h
  obtain ⟨F, ds, d, sf, hv, hg, hq⟩ := h
  unfold bAbs at hg
  split at hg
  · cases hg
    obtain ⟨v, rfl, h1⟩ := vd1 hv
    cases h1
    exact call_abs pins s σ H _ us Q I r ⟨_, rfl, hq _ _ F (Ext.refl sf) (.int _)⟩
  · cases hg
theorem cb_gcd : CallR X (.builtin "math.gcd") (rCV X bGcd) := by
  intro pins s σ H xs us Q I r h
  obtain ⟨F, ds, d, sf, hv, hg, hq⟩ := h
  unfold bGcd at hg
  split at hg
  · cases hg
    obtain ⟨v, u, rfl, h1, h2⟩ := vd2 hv
    cases h1
    cases h2
    exact cr_gcd pins s σ H _ us Q I r ⟨_, _, rfl, hq _ _ F (Ext.refl sf) (.int _)⟩
  · cases hg
theorem vints {F : Hp} {v : V} {ds : List PyData} {ns : List Int} (h : Vd X.K F v (.list ds)) (e : ints? ds = some ns) : ∃ a, v = .ref a ∧ SqL X.K F a (ns.map V.int) := by
  rw [ints?_eq e] at h
  cases h with
  | lst hs hz ha =>
    rw [ha.ints] at hs
    exact ⟨_, rfl, hs⟩
theorem vbools {F : Hp} {v : V} {ds : List PyData} {ns : List Bool} (h : Vd X.K F v (.list ds)) (e : bools? ds = some ns) : ∃ a, v = .ref a ∧ SqL X.K F a (ns.map V.bl) := by
  rw [bools?_eq e] at h
  cases h with
  | lst hs hz ha =>
    rw [ha.bools] at hs
    exact ⟨_, rfl, hs⟩
theorem cb_sum (hc : X.calm = true) : CallR X (.builtin "sum") (rCV X bSum) := by
  intro pins s σ H xs us Q I r h
  obtain ⟨F, ds, d, sf, hv, hg, hq⟩ := h
  unfold bSum at hg
  split at hg
  · rename_i es
    cases e : ints? es with
    | none => rw [e] at hg; cases hg
    | some ns =>
      rw [e] at hg
      cases hg
      obtain ⟨v, rfl, h1⟩ := vd1 hv
      obtain ⟨a, rfl, hs⟩ := vints h1 e
      exact cr_sum hc pins s σ H _ us Q I r ⟨a, ns, rfl, sf.seq hs, hq _ _ F (Ext.refl sf) (.int _)⟩
  · cases hg
theorem cb_any (hc : X.calm = true) : CallR X (.builtin "any") (rCV X bAny) := by
  intro pins s σ H xs us Q I r h
  obtain ⟨F, ds, d, sf, hv, hg, hq⟩ := h
  unfold bAny at hg
  split at hg
  · rename_i es
    cases e : bools? es with
    | none => rw [e] at hg; cases hg
    | some ns =>
      rw [e] at hg
      cases hg
      obtain ⟨v, rfl, h1⟩ := vd1 hv
      obtain ⟨a, rfl, hs⟩ := vbools h1 e
      exact cr_any hc pins s σ H _ us Q I r ⟨a, ns, rfl, sf.seq hs, hq _ _ F (Ext.refl sf) (.bl _)⟩
  · cases hg
theorem cb_all (hc : X.calm = true) : CallR X (.builtin "all") (rCV X bAll) := by
  intro pins s σ H xs us Q I r h
  obtain ⟨F, ds, d, sf, hv, hg, hq⟩ := h
  unfold bAll at hg
  split at hg
  · rename_i es
    cases e : bools? es with
    | none => rw [e] at hg; cases hg
    | some ns =>
      rw [e] at hg
      cases hg
      obtain ⟨v, rfl, h1⟩ := vd1 hv
      obtain ⟨a, rfl, hs⟩ := vbools h1 e
      exact cr_all hc pins s σ H _ us Q I r ⟨a, ns, rfl, sf.seq hs, hq _ _ F (Ext.refl sf) (.bl _)⟩
  · cases hg
theorem lmax_pos {ns : List Int} {m : Int} (h : lmax ns = some m) : 0 < ns.length := by
  cases ns with
  | nil => cases h
  | cons a r => simp
theorem lmin_pos {ns : List Int} {m : Int} (h : lmin ns = some m) : 0 < ns.length := by
  cases ns with
  | nil => cases h
  | cons a r => simp
theorem cb_max (hc : X.calm = true) : CallR X (.builtin "max") (rCV X bMax) := by
  intro pins s σ H xs us Q I r h
  obtain ⟨F, ds, d, sf, hv, hg, hq⟩ := h
  unfold bMax at hg
  split at hg
  · cases hg
    obtain ⟨v, u, rfl, h1, h2⟩ := vd2 hv
    cases h1
    cases h2
    exact call_max2 hc pins s σ H _ us Q I r ⟨_, _, rfl, hq _ _ F (Ext.refl sf) (.int _)⟩
  · rename_i es
    cases e : ints? es with
    | none => rw [e] at hg; cases hg
    | some ns =>
      rw [e] at hg
      cases e2 : lmax ns with
      | none => simp [e2] at hg
      | some m =>
        simp only [Option.bind_some, e2, Option.map_some, Option.some.injEq] at hg
        subst hg
        obtain ⟨v, rfl, h1⟩ := vd1 hv
        obtain ⟨a, rfl, hs⟩ := vints h1 e
        refine cr_max hc pins s σ H _ us Q I r ⟨a, ns, rfl, sf.seq hs, lmax_pos e2, fun k k1 k2 => ?_⟩
        have e3 := lmax_of k1 k2
        rw [e2] at e3
        cases e3
        exact hq _ _ F (Ext.refl sf) (.int _)
  · cases hg
theorem cb_min (hc : X.calm = true) : CallR X (.builtin "min") (rCV X bMin) := by
  intro pins s σ H xs us Q I r h
  obtain ⟨F, ds, d, sf, hv, hg, hq⟩ := h
  unfold bMin at hg
  split at hg
  · cases hg
    obtain ⟨v, u, rfl, h1, h2⟩ := vd2 hv
    cases h1
    cases h2
    exact call_min2 hc pins s σ H _ us Q I r ⟨_, _, rfl, hq _ _ F (Ext.refl sf) (.int _)⟩
  · rename_i es
    cases e : ints? es with
    | none => rw [e] at hg; cases hg
    | some ns =>
      rw [e] at hg
      cases e2 : lmin ns with
      | none => simp [e2] at hg
      | some m =>
        simp only [Option.bind_some, e2, Option.map_some, Option.some.injEq] at hg
        subst hg
        obtain ⟨v, rfl, h1⟩ := vd1 hv
        obtain ⟨a, rfl, hs⟩ := vints h1 e
        refine cr_min hc pins s σ H _ us Q I r ⟨a, ns, rfl, sf.seq hs, lmin_pos e2, fun k k1 k2 => ?_⟩
        have e3 := lmin_of k1 k2
        rw [e2] at e3
        cases e3
        exact hq _ _ F (Ext.refl sf) (.int _)
  · cases hg
theorem cb_list : CallR X (.type "list") (rCV X bList) := by
  intro pins s σ H xs us Q I r h
  obtain ⟨F, ds, d, sf, hv, hg, hq⟩ := h
  unfold bList at hg
  split at hg
  · cases hg
    obtain ⟨v, rfl, h1⟩ := vd1 hv
    cases h1 with
    | lst hs hz ha => exact call_list_of pins s σ H _ us Q I r ⟨_, _, rfl, .inl (sf.seq hs), new_lst sf hz ha hq⟩
  · cases hg
    obtain ⟨v, rfl, h1⟩ := vd1 hv
    cases h1 with
    | tup hs hz ha => exact call_list_of pins s σ H _ us Q I r ⟨_, _, rfl, .inr (same_sqT sf hs), new_lst sf hz ha hq⟩
  · cases hg
theorem cb_tuple : CallR X (.type "tuple") (rCV X bTuple) := by
  intro pins s σ H xs us Q I r h
  obtain ⟨F, ds, d, sf, hv, hg, hq⟩ := h
  unfold bTuple at hg
  split at hg
  · cases hg
    obtain ⟨v, rfl, h1⟩ := vd1 hv
    cases h1 with
    | lst hs hz ha => exact call_tuple_of pins s σ H _ us Q I r ⟨_, _, rfl, .inl ⟨sf.seq hs, new_tup sf hz ha hq⟩⟩
  · cases hg
    obtain ⟨v, rfl, h1⟩ := vd1 hv
    cases h1 with
    | tup hs hz ha => exact call_tuple_of pins s σ H _ us Q I r ⟨_, _, rfl, .inr ⟨same_sqT sf hs, hq _ _ F (Ext.refl sf) (.tup hs hz ha)⟩⟩
  · cases hg
end

/-! ### isinstance -/
inductive Ty where | int | bool | str | list | tuple | none
  deriving DecidableEq
def Ty.name : Ty → String
  | .int => "int" | .bool => "bool" | .str => "str" | .list => "list" | .tuple => "tuple" | .none => "NoneType"
def tyOf : PyData → Ty
  | .none => .none | .bool _ => .bool | .int _ => .int | .str _ => .str | .list _ => .list | .tuple _ => .tuple | .dict _ => .none
def Ty.sub : Ty → Ty → Bool
  | .int, .int => true | .bool, .int => true | .bool, .bool => true | .str, .str => true | .list, .list => true | .tuple, .tuple => true | .none, .none => true
  | _, _ => false
def isTy (T : Ty) (d : PyData) : Bool := (tyOf d).sub T
theorem kitTy {K : PySem.W.Frag} (a b : Ty) (hb : b ≠ .none) : PySem.W.kitOne K (.type a.name) (.type b.name) = some (a.sub b) := by
  apply kit_ty
  cases a <;> cases b <;> first | exact absurd rfl hb | decide +kernel
section
variable {X : Cx} {P : Pm} {pos p p2 : Pos} {e : Expr} {f : Evn → RE PyData} {x : Str}
theorem vd_ty {F H : Hp} {v : V} {d : PyData} (sf : Same F H) (h : Vd X.K F v d) : TyX X.K H v (.type (tyOf d).name) := by
  cases h with
  | non => exact .base .non
  | bl b => exact .base (.bl b)
  | int i => exact .base (.int i)
  | str x hx => exact .base (.str x)
  | lst hs hz ha =>
    rcases sf.seq hs with (h | ⟨o, h⟩) | ⟨o, its, n, hk, hc, _⟩
    · exact .base (.lst h)
    · exact .base (.frz h)
    · exact .kList hk hc
  | tup hs hz ha =>
    rcases same_sqT sf hs with (h | ⟨o, h⟩) | ⟨o, its, n, hk, hc, _⟩
    · exact .base (.tup h)
    · exact .fTuple h
    · exact .kTuple hk hc
/-- a built-in class as a value -/
theorem pe_cls {T : Ty} (hg : Gl X x) (hm : X.mg x = none) (hv : bootBuiltins x = some (.type T.name)) (hn : x ≠ "__name__" := by decide) (hdb : (x == ("__debug__" : Str)) = false := by decide) : PE X (.Name x p) (tC (.ty T.name)) := pe_bltn hg hm hv rfl hn hdb
def mIs (T : Ty) (f : Evn → RE PyData) (ρ : Evn) : RE PyData := (f ρ).bind fun d => .ok (.bool (isTy T d))
theorem ve_isi {T : Ty} (hT : T ≠ .none) (he : VE X P e f) (hg : Gl X "isinstance") (hm : X.mg "isinstance" = none) (hg2 : Gl X x) (hm2 : X.mg x = none) (hv : bootBuiltins x = some (.type T.name)) (hn : x ≠ "__name__" := by decide) (hdb : (x == ("__debug__" : Str)) = false := by decide)
    (h1 : starEach [e, .Name x p2] X.env = (false, eval e X.env) :: starEach [.Name x p2] X.env := by rfl) (h2 : starEach [.Name x p2] X.env = (false, eval (.Name x p2) X.env) :: starEach [] X.env := by rfl) (hpl : (backTo pos (starEach [.Name x p2] X.env)).any (·.1) = false := by rfl) :
    VE X P (.Call (.Name "isinstance" p) [e, .Name x p2] [] pos) (mIs T f) :=
  PE_mono (pe_callB call_isi hg hm (by decide +kernel) (pa_cons he (pa_cons (pe_cls hg2 hm2 hv hn hdb) pa_nil h2) h1) (he := h1) (hpl := hpl)) fun σ H Q h => by
    obtain ⟨ρ, F, hR, h⟩ := h
    refine Out.first hR h fun d v F1 H1 e1 hv R1 h1 => ?_
    exact ⟨v, _, _, _, _, rfl, .ty _, vd_ty R1.fh hv, kitTy _ _ hT, h1 _ H1 F1 (Ext.refl R1.fh) (.bl _)⟩
/-- isinstance(e, (T, U)) -/
def mIs2 (T U : Ty) (f : Evn → RE PyData) (ρ : Evn) : RE PyData := (f ρ).bind fun d => .ok (.bool (isTy T d || isTy U d))
theorem ve_isi2 {T U : Ty} {y : Str} {p3 p4 : Pos} {k : Nat} (hT : T ≠ .none) (hU : U ≠ .none) (he : VE X P e f) (hg : Gl X "isinstance") (hm : X.mg "isinstance" = none) (hg2 : Gl X x) (hm2 : X.mg x = none) (hv : bootBuiltins x = some (.type T.name))
    (hg3 : Gl X y) (hm3 : X.mg y = none) (hv3 : bootBuiltins y = some (.type U.name)) (hn : x ≠ "__name__" := by decide) (hdb : (x == ("__debug__" : Str)) = false := by decide) (hn3 : y ≠ "__name__" := by decide) (hdb3 : (y == ("__debug__" : Str)) = false := by decide)
    (h1 : starEach [e, .Tuple [.Name x p2, .Name y p3] k p4] X.env = (false, eval e X.env) :: starEach [.Tuple [.Name x p2, .Name y p3] k p4] X.env := by rfl) (h2 : starEach [.Tuple [.Name x p2, .Name y p3] k p4] X.env = (false, eval (.Tuple [.Name x p2, .Name y p3] k p4) X.env) :: starEach [] X.env := by rfl)
    (hpl : (backTo pos (starEach [.Tuple [.Name x p2, .Name y p3] k p4] X.env)).any (·.1) = false := by rfl)
    (h3 : starEach [.Name x p2, .Name y p3] X.env = (false, eval (.Name x p2) X.env) :: starEach [.Name y p3] X.env := by rfl) (h4 : starEach [.Name y p3] X.env = (false, eval (.Name y p3) X.env) :: starEach [] X.env := by rfl) :
    VE X P (.Call (.Name "isinstance" p) [e, .Tuple [.Name x p2, .Name y p3] k p4] [] pos) (mIs2 T U f) :=
  PE_mono (pe_callB call_isiT hg hm (by decide +kernel) (pa_cons he (pa_cons (pe_tup (pa_cons (pe_cls hg2 hm2 hv hn hdb) (pa_cons (pe_cls hg3 hm3 hv3 hn3 hdb3) pa_nil h4) h3)) pa_nil h2) h1) (he := h1) (hpl := hpl)) fun σ H Q h => by
    obtain ⟨ρ, F, hR, h⟩ := h
    refine Out.first hR h fun d v F1 H1 e1 hv R1 h1 => ?_
    refine ⟨by show 2 ≤ sizeLine; decide, fun tp hp => ?_⟩
    refine ⟨v, tp, _, _, _, _, rfl, upd_same, .cons (.ty _) (.cons (.ty _) .nil), vd_ty (R1.fh.trans (same_upd hp)) hv, kitAny_cons (r := isTy T d || isTy U d) (kitTy _ _ hT) (fun hb => kitAny_cons (kitTy _ _ hU) (fun hb2 => ?_) (fun hb2 => ?_)) (fun hb => ?_), ?_⟩
    · have a1 : isTy T d = false := hb
      have a2 : isTy U d = false := hb2
      rw [a1, a2]; exact kitAny_nil
    · have a2 : isTy U d = true := hb2
      rw [a2, Bool.or_true]
    · have a1 : isTy T d = true := hb
      rw [a1, Bool.true_or]
    · exact h1 _ _ F1 (Ext.beside R1.fh hp) (.bl _)
end
end PV
end
section
set_option Elab.async false
set_option linter.all false
set_option maxRecDepth 100000
set_option maxHeartbeats 4000000
namespace PV
open PySem PySem.Spec PyProof.Rows L2

/-! ### defs -/
/-- a def's promise by its meaning: what stood is as it was, the answer is the datum -/
def SpV (K : PySem.W.Frag) (mg : Str → Option Value) (n : Nat) (sem : List PyData → RE PyData) : Sp := fun vs H Q E => ∃ F ds, Same F H ∧ VdAll K F vs ds ∧ ds.length = n ∧
  (sem ds).post (fun d => ∀ v H' F', Ext F H F' H' → Vd K F' v d → Q v H') (fun c _ => ∀ C H' F', mg c = some (.ref C) → Ext F H F' H' → E (.ref C) none H')
structure FnV (P : Program) (w : World) (K : PySem.W.Frag) (mg : Str → Option Value) (base : Heap) (k : Nat) (f : Addr) (fd : FuncData) (ps : List Str) (sem : List PyData → RE PyData) : Prop where
  ok : FnOk P w K mg base (L2.CX P w) k f fd ps (SpV K mg ps.length sem)
  ar : ∀ ds, ds.length ≠ ps.length → sem ds = .bad
theorem FnV.mono {P : Program} {w : World} {K : PySem.W.Frag} {mg : Str → Option Value} {base : Heap} {j k : Nat} {f : Addr} {fd : FuncData} {ps : List Str} {sem : List PyData → RE PyData} (h : FnV P w K mg base j f fd ps sem) (hk : j ≤ k) :
    FnV P w K mg base k f fd ps sem := ⟨h.ok.mono hk, h.ar⟩
/-- nothing is claimed -/
theorem FnV.bad {P : Program} {w : World} {K : PySem.W.Frag} {mg : Str → Option Value} {base : Heap} {k : Nat} {f : Addr} {fd : FuncData} {ps : List Str} : FnV P w K mg base k f fd ps (fun _ => .bad) :=
  ⟨⟨fun vs H Q E ⟨F, ds, _, _, _, h⟩ => h.elim, fun _ _ _ _ _ _ _ _ _ _ _ _ _ ⟨F, ds, _, _, _, h⟩ => h.elim⟩, fun _ _ => rfl⟩
section
variable {X : Cx} {P : Pm} {pos p : Pos} {e : Expr} {es : List Expr} {fa : Evn → RE (List PyData)} {sem : List PyData → RE PyData} {x : Str} {k : Nat} {f : Addr} {fd : FuncData} {ps : List Str}
theorem spV_of {σ : Sg} {H F : Hp} {Q : VK} {vs : List V} {ds : List PyData} (ar : ∀ ds, ds.length ≠ ps.length → sem ds = .bad) (sf : Same F H) (hv : VdAll X.K F vs ds) (h : Out X P σ Q F H (sem ds)) : SpV X.K X.mg ps.length sem vs H Q (WE P.W σ) := by
  refine ⟨F, ds, sf, hv, ?_, R.post_mono h (fun d q => q) (fun c _ q => q)⟩
  by_cases hl : ds.length = ps.length
  · exact hl
  · rw [ar ds hl] at h; exact h.elim
theorem ve_call (F : FnV X.prog X.w X.K X.mg X.base k f fd ps sem) (hr : Room k X.A) (hg : Gl X x) (hm : X.mg x = some (.ref f)) (hk : PySem.W.keepIn X.K (.ref f) = true) (hb : Binds X.K fd ps []) (tk : Takes X P.W)
    (ha : VA X P (e :: es) fa) (hdb : (x == ("__debug__" : Str)) = false := by decide) (he : starEach (e :: es) X.env = (false, eval e X.env) :: starEach es X.env := by rfl) (hpl : (backTo pos (starEach es X.env)).any (·.1) = false := by rfl) :
    VE X P (.Call (.Name x p) (e :: es) [] pos) (mSeq sem fa) := PE_mono (pe_callS F.ok hr hg hm hk hb (fun σ => passAt tk σ) ha hdb he hpl) fun σ H Q h => by
  obtain ⟨ρ, F0, hR, h⟩ := h
  exact OutA.firstV hR h fun ds vs F1 H1 e1 hv R1 h1 => spV_of F.ar R1.fh hv h1
/-- f() -/
theorem ve_call0 (F : FnV X.prog X.w X.K X.mg X.base k f fd ps sem) (hr : Room k X.A) (hg : Gl X x) (hm : X.mg x = some (.ref f)) (hk : PySem.W.keepIn X.K (.ref f) = true) (hb : Binds X.K fd ps []) (tk : Takes X P.W)
    (hdb : (x == ("__debug__" : Str)) = false := by decide) :
    VE X P (.Call (.Name x p) [] [] pos) (fun _ => sem []) := by
  have hc : PE X (.Call (.Name x p) [] [] pos) (fun σ H Q => SpV X.K X.mg ps.length sem [] H Q (WE P.W σ)) := by
    refine ⟨fun pins s σ H Q I h => ?_⟩
    refine wpAny_Call_Name_kw (ld_glob I hg hm ?_ hdb)
    exact PySem.W.callWith_K0 I.kIn hk (run_fnS (us := []) (E := WE P.W) F.ok hr hb (passAt tk σ) I .nil h)
  exact PE_mono hc fun σ H Q h => by
    obtain ⟨ρ, F0, hR, h⟩ := h
    exact spV_of F.ar hR.fh .nil h
end

/-! ### statements -/
inductive Fl where
  | nx | bk | ct
  | rt (d : PyData)
abbrev RS := R Evn (Fl × Evn)
def OutS (X : Cx) (P : Pm) (D : Ends) (F : Hp) (r : RS) : Prop :=
  r.post (fun p => match p.1 with
    | .nx => ∀ σ' H' F', Same F F' → Rep X.K P p.2 F' σ' H' → D.nx σ' H'
    | .bk => ∀ σ' H' F', Same F F' → Rep X.K P p.2 F' σ' H' → D.bk σ' H'
    | .ct => ∀ σ' H' F', Same F F' → Rep X.K P p.2 F' σ' H' → D.ct σ' H'
    | .rt d => ∀ v σ' H' F', Same F F' → Rep X.K P p.2 F' σ' H' → Vd X.K F' v d → D.rt v H')
  (fun c ρ' => ∀ C σ' H' F', X.mg c = some (.ref C) → Same F F' → Rep X.K P ρ' F' σ' H' → P.W (.ref C) none σ' H')
theorem OutS.step {X : Cx} {P : Pm} {D : Ends} {F F1 : Hp} {r : RS} (h : OutS X P D F r) (e : Same F F1) : OutS X P D F1 r :=
  R.post_mono h (fun p q => by
    obtain ⟨fl, ρ⟩ := p
    cases fl with
    | nx => exact fun σ' H' F' s r => q σ' H' F' (e.trans s) r
    | bk => exact fun σ' H' F' s r => q σ' H' F' (e.trans s) r
    | ct => exact fun σ' H' F' s r => q σ' H' F' (e.trans s) r
    | rt d => exact fun v σ' H' F' s r => q v σ' H' F' (e.trans s) r) (fun c ρ' q C σ' H' F' hm s r => q C σ' H' F' hm (e.trans s) r)
def tS (X : Cx) (P : Pm) (f : Evn → RS) : TS := fun D σ H => ∃ ρ F, Rep X.K P ρ F σ H ∧ OutS X P D F (f ρ)
def VS (X : Cx) (P : Pm) (st : Stmt) (f : Evn → RS) : Prop := PS X st (tS X P f)
def VSs (X : Cx) (P : Pm) (sts : List Stmt) (f : Evn → RS) : Prop := PSs X sts (tS X P f)
theorem PS_mono {X : Cx} {st : Stmt} {t t' : TS} (h : PS X st t) (m : ∀ D σ H, t' D σ H → t D σ H) : PS X st t' := ⟨fun pins s σ H D I q => h.run pins s σ H D I (m D σ H q)⟩
theorem PSs_mono {X : Cx} {st : List Stmt} {t t' : TS} (h : PSs X st t) (m : ∀ D σ H, t' D σ H → t D σ H) : PSs X st t' := ⟨fun pins s σ H D I q => h.run pins s σ H D I (m D σ H q)⟩
/-- an expression's result in a statement -/
def R.at {α : Type} (x : RE α) (ρ : Evn) : R Evn α := match x with
  | .ok a => .ok a
  | .exc c _ => .exc c ρ
  | .bad => .bad
def sNx (ρ : Evn) : RS := .ok (.nx, ρ)
def sThen (f g : Evn → RS) (ρ : Evn) : RS := (f ρ).bind fun p => match p.1 with
  | .nx => g p.2
  | _ => .ok p
def sDrop (f : Evn → RE PyData) (ρ : Evn) : RS := ((f ρ).at ρ).bind fun _ => .ok (.nx, ρ)
def sRet (f : Evn → RE PyData) (ρ : Evn) : RS := ((f ρ).at ρ).bind fun d => .ok (.rt d, ρ)
def sSet (i : Nat) (f : Evn → RE PyData) (ρ : Evn) : RS := ((f ρ).at ρ).bind fun d => .ok (.nx, ρ.set i (some (.val d)))
def sIf (c : Evn → RE Bool) (f g : Evn → RS) (ρ : Evn) : RS := ((c ρ).at ρ).bind fun b => if b then f ρ else g ρ
section
variable {X : Cx} {P : Pm} {pos : Pos} {st : Stmt} {sts : List Stmt} {e : Expr} {f g : Evn → RS} {fe : Evn → RE PyData} {fc : Evn → RE Bool} {D : Ends} {ρ : Evn} {F H : Hp} {σ : Sg}
/-- an expression in a statement is read -/
theorem OutS.first {k : PyData → RS} {Q' : VK} (hR : Rep X.K P ρ F σ H) (h : OutS X P D F (((fe ρ).at ρ).bind k)) (hq : ∀ d v F1 H1, Ext F H F1 H1 → Vd X.K F1 v d → Rep X.K P ρ F1 σ H1 → OutS X P D F1 (k d) → Q' v H1) : tV X P fe σ H Q' := by
  refine ⟨ρ, F, hR, ?_⟩
  cases q : fe ρ with
  | ok d => rw [q] at h; exact fun v H' F' ex hv => hq d v F' H' ex hv (hR.step ex) (OutS.step h ex.ff)
  | exc c u => rw [q] at h; exact fun C H' F' hm ex => h C σ H' F' hm ex.ff (hR.step ex)
  | bad => rw [q] at h; exact h.elim
theorem OutS.firstB {k : Bool → RS} {Q' : Bool → Hp → Prop} (hR : Rep X.K P ρ F σ H) (h : OutS X P D F (((fc ρ).at ρ).bind k)) (hq : ∀ d F1 H1, Ext F H F1 H1 → Rep X.K P ρ F1 σ H1 → OutS X P D F1 (k d) → Q' d H1) : tTV X P fc σ H Q' := by
  refine ⟨ρ, F, hR, ?_⟩
  cases q : fc ρ with
  | ok d => rw [q] at h; exact fun H' F' ex => hq d F' H' ex (hR.step ex) (OutS.step h ex.ff)
  | exc c u => rw [q] at h; exact fun C H' F' hm ex => h C σ H' F' hm ex.ff (hR.step ex)
  | bad => rw [q] at h; exact h.elim
theorem vs_nil : VSs X P [] sNx := PSs_mono pss_nil fun D σ H h => by
  obtain ⟨ρ, F, hR, h⟩ := h
  exact h σ H F (Same.refl _) hR
theorem tS_then {D : Ends} {σ : Sg} {H : Hp} (h : tS X P (sThen f g) D σ H) : tSeq (tS X P f) (tS X P g) D σ H := by
  obtain ⟨ρ, F, hR, h⟩ := h
  refine ⟨ρ, F, hR, ?_⟩
  unfold sThen at h
  cases q : f ρ with
  | ok p =>
    rw [q] at h
    obtain ⟨fl, ρ'⟩ := p
    cases fl with
    | nx => exact fun σ' H' F' s hR' => ⟨ρ', F', hR', OutS.step h s⟩
    | bk => exact h
    | ct => exact h
    | rt d => exact h
  | exc c u => rw [q] at h; exact h
  | bad => rw [q] at h; exact h.elim
theorem vs_cons (h1 : VS X P st f) (h2 : VSs X P sts g) : VSs X P (st :: sts) (sThen f g) := PSs_mono (pss_cons h1 h2) fun D σ H h => tS_then h
theorem vs_one (h1 : VS X P st f) : VSs X P [st] f := pss_one h1
theorem vs_pass : VS X P (.Pass pos) sNx := PS_mono ps_pass fun D σ H h => by
  obtain ⟨ρ, F, hR, h⟩ := h
  exact h σ H F (Same.refl _) hR
theorem vs_break : VS X P (.Break pos) (fun ρ => .ok (.bk, ρ)) := PS_mono ps_break fun D σ H h => by
  obtain ⟨ρ, F, hR, h⟩ := h
  exact h σ H F (Same.refl _) hR
theorem vs_continue : VS X P (.Continue pos) (fun ρ => .ok (.ct, ρ)) := PS_mono ps_continue fun D σ H h => by
  obtain ⟨ρ, F, hR, h⟩ := h
  exact h σ H F (Same.refl _) hR
theorem vs_expr (he : VE X P e fe) (hs : swapsWith e none pos.line X.env = pure false := by rfl) : VS X P (.Expr e pos) (sDrop fe) := PS_mono (ps_expr he hs) fun D σ H h => by
  obtain ⟨ρ, F, hR, h⟩ := h
  exact OutS.first hR h fun d v F1 H1 e1 hv R1 h1 => h1 σ H1 F1 (Same.refl _) R1
theorem vs_ret (he : VE X P e fe) : VS X P (.Return (some e) pos) (sRet fe) := PS_mono (ps_ret he) fun D σ H h => by
  obtain ⟨ρ, F, hR, h⟩ := h
  exact OutS.first hR h fun d v F1 H1 e1 hv R1 h1 => h1 v σ H1 F1 (Same.refl _) R1 hv
theorem vs_retN : VS X P (.Return none pos) (fun ρ => .ok (.rt .none, ρ)) := PS_mono ps_retN fun D σ H h => by
  obtain ⟨ρ, F, hR, h⟩ := h
  exact h _ σ H F (Same.refl _) hR .non
theorem vs_if {c : Expr} {a b : List Stmt} (hc : VT X P c fc) (ha : VSs X P a f) (hb : VSs X P b g) : VS X P (.If c a b pos) (sIf fc f g) := PS_mono (ps_if hc ha hb) fun D σ H h => by
  obtain ⟨ρ, F, hR, h⟩ := h
  refine OutS.firstB hR h fun d F1 H1 e1 R1 h1 => ?_
  cases d with
  | true => rw [if_pos rfl]; exact ⟨ρ, F1, R1, by simpa using h1⟩
  | false => rw [if_neg (by decide)]; exact ⟨ρ, F1, R1, by simpa using h1⟩
theorem vs_set (i : Nat) {x : Str} {pos' : Pos} (hN : X.N.Nodup) (he : VE X P e fe) (hi : X.N[i]? = some x := by rfl) (hx : Loc X.env.scope x := by first | exact Or.inl rfl | exact Or.inr rfl) (hs : swapsWith e (some (.Name x pos')) pos.line X.env = pure false := by rfl)
    (hf : X.fn x = true ∨ X.env.scope.names.lookup x = some .local := by first | exact .inl rfl | exact .inr rfl) : VS X P (.Assign [.Name x pos'] e pos) (sSet i fe) := PS_mono (ps_set hN hi hx he hs hf) fun D σ H h => by
  obtain ⟨ρ, F, hR, h⟩ := h
  exact OutS.first hR h fun d v F1 H1 e1 hv R1 h1 => h1 _ H1 F1 (Same.refl _) (R1.setVal hv)
/-- a name's own list becomes still ahead of a statement -/
theorem vs_freeze (i : Nat) (h : VS X P st f) : VS X P st (fun ρ => f (freeze i ρ)) := PS_mono h fun D σ H h => by
  obtain ⟨ρ, F, hR, h⟩ := h
  obtain ⟨F', s1, R1⟩ := hR.freeze (i := i)
  exact ⟨_, F', R1, OutS.step h s1⟩
/-- an expression whose answer bears no object may read a name's own list -/
def scal : PyData → Bool
  | .none => true | .bool _ => true | .int _ => true | .str _ => true
  | _ => false
def mBor (i : Nat) (f : Evn → RE PyData) (ρ : Evn) : RE PyData := (f (freeze i ρ)).bind fun d => if scal d then .ok d else .bad
theorem Rep.bor {F1 H' F' : Hp} (r : Rep X.K P ρ F σ H) (s : Same F F1) (e : Ext F1 H F' H') : Ext F H F H' := ⟨e.hh, Same.refl _, r.fh.trans e.hh, fun _ _ q => .inl q⟩
theorem ve_bor (i : Nat) (h : VE X P e fe) : VE X P e (mBor i fe) := PE_mono h fun σ H Q h => by
  obtain ⟨ρ, F, hR, h⟩ := h
  obtain ⟨F1, s1, R1⟩ := hR.freeze (i := i)
  refine ⟨_, F1, R1, ?_⟩
  unfold mBor at h
  cases q : fe (freeze i ρ) with
  | ok d =>
    rw [q] at h
    intro v H' F' ex hv
    have h' : Out X P σ Q F H (if scal d = true then .ok d else .bad) := h
    by_cases hs : scal d = true
    · rw [if_pos hs] at h'
      refine h' v H' F (hR.bor s1 ex) ?_
      cases hv with
      | non => exact .non
      | bl b => exact .bl b
      | int i => exact .int i
      | str x hx => exact .str x hx
      | lst _ _ _ => cases hs
      | tup _ _ _ => cases hs
    · rw [if_neg hs] at h'; exact h'.elim
  | exc c u =>
    rw [q] at h
    exact fun C H' F' hm ex => h C H' F hm (hR.bor s1 ex)
  | bad => rw [q] at h; exact h.elim
def mBorB (i : Nat) (f : Evn → RE Bool) (ρ : Evn) : RE Bool := f (freeze i ρ)
theorem vt_bor (i : Nat) (h : VT X P e fc) : VT X P e (mBorB i fc) := PT_mono h fun σ H Q h => by
  obtain ⟨ρ, F, hR, h⟩ := h
  obtain ⟨F1, s1, R1⟩ := hR.freeze (i := i)
  refine ⟨_, F1, R1, ?_⟩
  exact R.post_mono h (fun b q H' F' ex => q H' F (hR.bor s1 ex)) (fun c _ q C H' F' hm ex => q C H' F hm (hR.bor s1 ex))
end

/-! ### a body -/
def startE (N : Nat) (ds : List PyData) : Evn := ds.map (fun d => some (.val d)) ++ List.replicate (N - ds.length) none
def bodyOut (r : RS) : RE PyData := match r with
  | .ok (.rt d, _) => .ok d
  | .ok (.nx, _) => .ok .none
  | .ok _ => .bad
  | .exc c _ => .exc c ()
  | .bad => .bad
/-- what a def's body means: n parameters, N names -/
def fnM (n N : Nat) (body : Evn → RS) (ds : List PyData) : RE PyData := if ds.length = n then bodyOut (body (startE N ds)) else .bad
theorem fnM_ar {n N : Nat} {body : Evn → RS} {ds : List PyData} (h : ds.length ≠ n) : fnM n N body ds = .bad := if_neg h
theorem startE_get {N : Nat} {ds : List PyData} {i : Nat} {c : Cel} (h : (startE N ds)[i]? = some (some c)) : ∃ d, c = .val d ∧ ds[i]? = some d := by
  unfold startE at h
  by_cases hi : i < (ds.map fun d => (some (Cel.val d) : Option Cel)).length
  · rw [List.getElem?_append_left hi, List.getElem?_map] at h
    cases q : ds[i]? with
    | none => rw [q] at h; cases h
    | some d => rw [q] at h; cases h; exact ⟨d, rfl, rfl⟩
  · rw [List.getElem?_append_right (by omega)] at h
    have := List.mem_of_getElem? h
    rw [List.mem_replicate] at this
    cases this.2
theorem rep_start {K : PySem.W.Frag} {N : List Str} {vs : List V} {ds : List PyData} {F H : Hp} {W : WX} (sf : Same F H) (hv : VdAll K F vs ds) : Rep K ⟨H, F, W, none⟩ (startE N.length ds) F (L2.start N vs) H := by
  have hl := hv.length
  refine ⟨?_, ⟨Same.refl _, Same.refl _, sf, fun _ _ e => .inl e⟩, fun i c h => ?_, fun i j a es es' _ h1 => ?_⟩
  · unfold startE L2.start
    simp only [List.length_append, List.length_map, List.length_replicate]
    omega
  · obtain ⟨d, rfl, hd⟩ := startE_get h
    obtain ⟨v, h1, h2⟩ := hv.get hd
    refine ⟨v, ?_, h2⟩
    unfold L2.start
    have hi : i < vs.length := (List.getElem?_eq_some_iff.mp h1).1
    rw [List.getElem?_append_left (by rw [List.length_map]; exact hi), List.getElem?_map, h1]
    rfl
  · obtain ⟨d, e, _⟩ := startE_get h1
    cases e
/-- a def's wish -/
abbrev wE (E : XK) : WX := fun cls d _ H => E cls d H
section
variable {P : Program} {w : World} {K : PySem.W.Frag} {mg : Str → Option Value} {base : Heap}
/-- THE RULE for a def: its body's meaning -/
theorem FnV.of {x qual : Str} {st : Stmt} {f : Addr} {fd : FuncData} {N ps : List Str} {k : Nat} {body : Evn → RS} (F : Fun K x qual st f fd) (S : FnScope N ps (defScope st))
    (hbody : ∀ (cdv : Value) (A : Around) (outer : List Env) (s : Shared) (H : Hp) (E : XK) (F0 : Hp), Room k (A.deeper (envOfC qual (defScope st) s.heap.objs.size f cdv)) →
      VSs (cxOf (L2.CX P w) P w K mg base N qual (defScope st) f cdv A outer s H E) ⟨H, F0, wE E, none⟩ (defBody st) body) :
    FnV P w K mg base (k + 1) f fd ps (fnM ps.length N.length body) := by
  refine ⟨F.okX S (fun vs H Q E h => ?_) (fun cdv A outer s H vs Q E hr h => ?_), fun ds h => fnM_ar h⟩
  · obtain ⟨F0, ds, _, hv, hl, _⟩ := h
    rw [hv.length, hl]
  · obtain ⟨F0, ds, sf, hv, hl, hp⟩ := h
    refine ⟨_, hbody cdv A outer s H E F0 hr, startE N.length ds, F0, rep_start sf hv, ?_⟩
    unfold fnM at hp
    rw [if_pos hl] at hp
    unfold OutS
    cases q : body (startE N.length ds) with
    | ok p =>
      rw [q] at hp
      obtain ⟨fl, ρ'⟩ := p
      cases fl with
      | nx => exact fun σ' H' F' _ r => hp _ _ F' r.ext .non
      | bk => exact hp.elim
      | ct => exact hp.elim
      | rt d => exact fun v σ' H' F' _ r hv' => hp v H' F' r.ext hv'
    | exc c ρ' =>
      rw [q] at hp
      exact fun C σ' H' F' hm _ r => hp C H' F' hm r.ext
    | bad => rw [q] at hp; exact hp.elim
theorem takesD {N : List Str} {qual : Str} {scope : Scope} {f : Addr} {cdv : Value} {A : Around} {outer : List Env} {s : Shared} {H : Hp} {E : XK} : Takes (cxOf (L2.CX P w) P w K mg base N qual scope f cdv A outer s H E) (wE E) := takes_of rfl rfl rfl rfl
end
end PV
end
section
set_option Elab.async false
set_option linter.all false
set_option maxRecDepth 100000
set_option maxHeartbeats 4000000
namespace PV
open PySem PySem.Spec PyProof.Rows L2 RT

/-! ### targets -/
/-- σ' is σ but for the slots is -/
def But (js : List Nat) (σ σ' : Sg) : Prop := ∀ vs : List Nat, (∀ i ∈ js, i ∈ vs) → L2.wipe σ' vs = L2.wipe σ vs
theorem wipe_set {σ : Sg} {i : Nat} {x : Option V} : ∀ {vs : List Nat}, i ∈ vs → L2.wipe (σ.set i x) vs = L2.wipe σ vs
  | v :: vs, h => by
    unfold L2.wipe
    by_cases hv : i ∈ vs
    · rw [wipe_set hv]
    · have e : i = v := by rcases List.mem_cons.mp h with e | e; exact e; exact absurd e hv
      subst e
      have q : ∀ ws : List Nat, (L2.wipe (σ.set i x) ws).set i none = (L2.wipe σ ws).set i none := fun ws => by
        induction ws with
        | nil => show (σ.set i x).set i none = σ.set i none; rw [List.set_set]
        | cons w ws ih =>
          show ((L2.wipe (σ.set i x) ws).set w none).set i none = ((L2.wipe σ ws).set w none).set i none
          by_cases hw : w = i
          · subst hw; rw [List.set_set, List.set_set]; exact ih
          · rw [List.set_comm _ _ hw, List.set_comm _ _ hw, ih]
      exact q vs
theorem But.refl (js : List Nat) (σ : Sg) : But js σ σ := fun _ _ => rfl
theorem But.set {i : Nat} {σ : Sg} {x : Option V} : But [i] σ (σ.set i x) := fun vs h => wipe_set (h i List.mem_cons_self)
theorem But.trans {a b : List Nat} {σ σ1 σ2 : Sg} (h : But a σ σ1) (k : But b σ1 σ2) : But (a ++ b) σ σ2 := fun vs m => (k vs fun i hi => m i (List.mem_append_right _ hi)).trans (h vs fun i hi => m i (List.mem_append_left _ hi))
def tG (X : Cx) (P : Pm) (m : PyData → Evn → Option Evn) (js : List Nat) : TG := fun v σ H Q => ∃ ρ F d ρ', Rep X.K P ρ F σ H ∧ Vd X.K F v d ∧ m d ρ = some ρ' ∧ ∀ σ', Rep X.K P ρ' F σ' H → But js σ σ' → Q σ' H
def tGs (X : Cx) (P : Pm) (m : List PyData → Evn → Option Evn) (js : List Nat) : TGs := fun vs σ H Q => ∃ ρ F ds ρ', Rep X.K P ρ F σ H ∧ VdAll X.K F vs ds ∧ m ds ρ = some ρ' ∧ ∀ σ', Rep X.K P ρ' F σ' H → But js σ σ' → Q σ' H
def VG (X : Cx) (P : Pm) (tg : Expr) (m : PyData → Evn → Option Evn) (js : List Nat) : Prop := PG X tg (tG X P m js)
def VGs (X : Cx) (P : Pm) (tgs : List Expr) (m : List PyData → Evn → Option Evn) (js : List Nat) : Prop := PGs X tgs (tGs X P m js)
theorem PG_mono {X : Cx} {e : Expr} {t t' : TG} (h : PG X e t) (m : ∀ v σ H Q, t' v σ H Q → t v σ H Q) : PG X e t' := ⟨fun pins s σ H v u Q I r q => h.run pins s σ H v u Q I r (m v σ H Q q)⟩
theorem PGs_mono {X : Cx} {e : List Expr} {t t' : TGs} (h : PGs X e t) (m : ∀ v σ H Q, t' v σ H Q → t v σ H Q) : PGs X e t' := ⟨fun pins s σ H v u Q I r q => h.run pins s σ H v u Q I r (m v σ H Q q)⟩
def gN (i : Nat) (d : PyData) (ρ : Evn) : Option Evn := some (ρ.set i (some (.val d)))
def gE (ds : List PyData) (ρ : Evn) : Option Evn := match ds with
  | [] => some ρ
  | _ => none
def gC (m : PyData → Evn → Option Evn) (ms : List PyData → Evn → Option Evn) (ds : List PyData) (ρ : Evn) : Option Evn := match ds with
  | d :: r => (m d ρ).bind (ms r)
  | _ => none
def gT (n : Nat) (ms : List PyData → Evn → Option Evn) (d : PyData) (ρ : Evn) : Option Evn := match d with
  | .tuple ds => if ds.length = n then ms ds ρ else none
  | .list ds => if ds.length = n then ms ds ρ else none
  | _ => none
def oS {α : Type} : Option α → R Evn α
  | some a => .ok a
  | none => .bad
section
variable {X : Cx} {P : Pm} {pos : Pos} {e : Expr} {es : List Expr} {m : PyData → Evn → Option Evn} {ms : List PyData → Evn → Option Evn} {fe : Evn → RE PyData}
theorem vg_name (i : Nat) {x : Str} (hN : X.N.Nodup) (hi : X.N[i]? = some x := by rfl) (hx : Loc X.env.scope x := by first | exact Or.inl rfl | exact Or.inr rfl) (hf : X.fn x = true ∨ X.env.scope.names.lookup x = some .local := by first | exact .inl rfl | exact .inr rfl) : VG X P (.Name x pos) (gN i) [i] :=
  PG_mono (pg_name hN hi hx hf) fun v σ H Q h => by
    obtain ⟨ρ, F, d, ρ', hR, hv, he, h⟩ := h
    cases he
    exact h _ (hR.setVal hv) But.set
theorem vgs_nil : VGs X P [] gE [] := PGs_mono pgs_nil fun vs σ H Q h => by
  obtain ⟨ρ, F, ds, ρ', hR, hv, he, h⟩ := h
  cases hv with
  | nil => cases he; exact ⟨rfl, h _ hR (But.refl _ _)⟩
  | cons _ _ => cases he
theorem bind_some {α β : Type} {o : Option α} {k : α → Option β} {b : β} (h : o.bind k = some b) : ∃ a, o = some a ∧ k a = some b := by
  cases o with
  | none => cases h
  | some a => exact ⟨a, rfl, h⟩
theorem vgs_cons {js js' : List Nat} (h1 : VG X P e m js) (h2 : VGs X P es ms js') (hs : (assignEach (e :: es) X.env).map (·.2) = assign e X.env :: (assignEach es X.env).map (·.2) := by rfl) : VGs X P (e :: es) (gC m ms) (js ++ js') := PGs_mono (pgs_cons h1 h2 hs) fun vs σ H Q h => by
  obtain ⟨ρ, F, ds, ρ', hR, hv, he, h⟩ := h
  cases hv with
  | nil => cases he
  | @cons v vs d ds h1 h2 =>
    obtain ⟨ρ1, e1, e2⟩ := bind_some he
    exact ⟨v, vs, rfl, ρ, F, d, ρ1, hR, h1, e1, fun σ' r' b1 => ⟨ρ1, F, ds, ρ', r', h2, e2, fun σ2 r2 b2 => h σ2 r2 (b1.trans b2)⟩⟩
theorem PG_or {t t' : TG} (h1 : PG X e t) (h2 : PG X e t') : PG X e (fun v σ H Q => t v σ H Q ∨ t' v σ H Q) := ⟨fun pins s σ H v u Q I r q => q.elim (h1.run pins s σ H v u Q I r) (h2.run pins s σ H v u Q I r)⟩
theorem if_some {α : Type} {p : Prop} [Decidable p] {o : Option α} {r : α} (h : (if p then o else none) = some r) : p ∧ o = some r := by
  by_cases hp : p
  · rw [if_pos hp] at h; exact ⟨hp, h⟩
  · rw [if_neg hp] at h; cases h
theorem vg_tup {k n : Nat} {js : List Nat} (hc : X.calm = true) (h : VGs X P es ms js) (hn : (assignEach es X.env).length = n := by rfl) (hst : (assignEach es X.env).findIdx? (·.1) = none := by rfl) : VG X P (.Tuple es k pos) (gT n ms) js :=
  PG_mono (PG_or (pg_tup hc h hn hst) (pg_lst hc h hn hst)) fun v σ H Q h => by
    obtain ⟨ρ, F, d, ρ', hR, hv, he, h⟩ := h
    cases hv with
    | @lst a xs ds hs hz ha =>
      obtain ⟨hl, e⟩ := if_some he
      exact .inr ⟨a, xs, rfl, hR.fh.seq hs, by rw [ha.length]; exact hl, ρ, F, ds, ρ', hR, ha, e, h⟩
    | @tup a xs ds hs hz ha =>
      obtain ⟨hl, e⟩ := if_some he
      exact .inl ⟨a, xs, rfl, same_sqT hR.fh hs, by rw [ha.length]; exact hl, ρ, F, ds, ρ', hR, ha, e, h⟩
    | _ => cases he
def sAsg (f : Evn → RE PyData) (m : PyData → Evn → Option Evn) (ρ : Evn) : RS := ((f ρ).at ρ).bind fun d => (oS (m d ρ)).bind fun ρ' => .ok (.nx, ρ')
theorem vs_asg {tg : Expr} {js : List Nat} (he : VE X P e fe) (hg : VG X P tg m js) (hs : swapsWithSole [tg] e pos.line X.env = pure false := by rfl) (hw : swappedStores [tg] e X.env = pure none := by rfl)
    (h1 : (assignEach [tg] X.env).map (·.2) = [assign tg X.env] := by rfl) : VS X P (.Assign [tg] e pos) (sAsg fe m) := PS_mono (ps_asg he hg hs hw h1) fun D σ H h => by
  obtain ⟨ρ, F, hR, h⟩ := h
  refine OutS.first hR h fun d v F1 H1 e1 hv R1 h1 => ?_
  cases q : m d ρ with
  | some ρ' => rw [q] at h1; exact ⟨ρ, F1, d, ρ', R1, hv, q, fun σ' r _ => h1 σ' H1 F1 (Same.refl _) r⟩
  | none => rw [q] at h1; exact h1.elim
/-- a, b = x, y, plain local names -/
def sPar (i j : Nat) (fa : Evn → RE (List PyData)) (ρ : Evn) : RS := ((fa ρ).at ρ).bind fun ds => match ds with
  | [d, e] => .ok (.nx, (ρ.set i (some (.val d))).set j (some (.val e)))
  | _ => .bad
theorem OutS.firstA {D : Ends} {ρ : Evn} {F H : Hp} {σ : Sg} {fa : Evn → RE (List PyData)} {k : List PyData → RS} {Q' : List V → Hp → Prop} (hR : Rep X.K P ρ F σ H) (h : OutS X P D F (((fa ρ).at ρ).bind k))
    (hq : ∀ d v F1 H1, Ext F H F1 H1 → VdAll X.K F1 v d → Rep X.K P ρ F1 σ H1 → OutS X P D F1 (k d) → Q' v H1) : tAV X P fa σ H Q' := by
  refine ⟨ρ, F, hR, ?_⟩
  cases q : fa ρ with
  | ok d => rw [q] at h; exact fun v H' F' ex hv => hq d v F' H' ex hv (hR.step ex) (OutS.step h ex.ff)
  | exc c u => rw [q] at h; exact fun C H' F' hm ex => h C σ H' F' hm ex.ff (hR.step ex)
  | bad => rw [q] at h; exact h.elim
theorem vs_par (i j : Nat) {x y : Str} {a b : Expr} {fa : Evn → RE (List PyData)} {px py pt : Pos} {kt k2 : Nat} {pt2 : Pos} (hc : X.calm = true) (hN : X.N.Nodup) (ha : VA X P [a, b] fa) (hi : X.N[i]? = some x := by rfl) (hj : X.N[j]? = some y := by rfl) (hij : i ≠ j := by decide)
    (hx : X.env.scope.names.lookup x = some .local := by rfl) (hy : X.env.scope.names.lookup y = some .local := by rfl)
    (hw : swappedStores [.Tuple [.Name x px, .Name y py] kt pt] (.Tuple [a, b] k2 pt2) X.env = pure (some [x, y]) := by rfl)
    (hs : swapsWithSole [.Tuple [.Name x px, .Name y py] kt pt] (.Tuple [a, b] k2 pt2) pos.line X.env = pure false := by rfl) :
    VS X P (.Assign [.Tuple [.Name x px, .Name y py] kt pt] (.Tuple [a, b] k2 pt2) pos) (sPar i j fa) := PS_mono (ps_par hc hN hi hj hij hx hy ha hw hs) fun D σ H h => by
  obtain ⟨ρ, F, hR, h⟩ := h
  refine OutS.firstA hR h fun ds vs F1 H1 e1 hv R1 h1 => ?_
  match ds, hv, h1 with
  | [d, e], hv, h1 =>
    obtain ⟨v, u, rfl, k1, k2⟩ := vd2 hv
    exact ⟨v, u, rfl, h1 _ H1 F1 (Same.refl _) ((R1.setVal k1).setVal k2)⟩
  | [], _, h1 => exact h1.elim
  | [_], _, h1 => exact h1.elim
  | _ :: _ :: _ :: _, _, h1 => exact h1.elim
end

/-! ### what is walked -/
/-- at each turn the walk yields the datum -/
structure WalkOk (K : PySem.W.Frag) (J : It) (F : Hp) (ds : List PyData) : Prop where
  go : ∀ i F1 H, Same F F1 → Same F1 H → i < ds.length → J.go i H
  yld : ∀ i d F1 H x H', Same F F1 → Same F1 H → ds[i]? = some d → J.yld i H x H' → ∃ F', Ext F1 H F' H' ∧ Vd K F' x d
  stop : ∀ i F1 H, Same F F1 → Same F1 H → ds.length ≤ i → J.stop i H
def tIV (X : Cx) (P : Pm) (g : Evn → RE (List PyData)) : TI := fun σ H Rr => ∃ ρ F, Rep X.K P ρ F σ H ∧
  (g ρ).post (fun ds => ∀ J H' F', Ext F H F' H' → WalkOk X.K J F' ds → Rr J H') (fun c _ => ∀ C H' F', X.mg c = some (.ref C) → Ext F H F' H' → P.W (.ref C) none σ H')
def VI (X : Cx) (P : Pm) (tg e : Expr) (g : Evn → RE (List PyData)) : Prop := PI X tg e (tIV X P g)
theorem PI_mono {X : Cx} {tg e : Expr} {t t' : TI} (h : PI X tg e t) (m : ∀ σ H R, t' σ H R → t σ H R) : PI X tg e t' := ⟨fun pins s σ H R I q => h.run pins s σ H R I (m σ H R q)⟩
section
variable {X : Cx} {P : Pm} {pos p : Pos} {tg e : Expr} {fe : Evn → RE PyData} {fa : Evn → RE (List PyData)}
theorem walk_list {F : Hp} {a : Addr} {xs : List V} {ds : List PyData} (hs : SqL X.K F a xs) (ha : VdAll X.K F xs ds) : WalkOk X.K (Itl X.K a) F ds where
  go := fun i F1 H s1 s2 hi => by
    obtain ⟨x, hx, _⟩ := ha.get (List.getElem?_eq_getElem hi)
    exact ⟨xs, x, s2.seq (s1.seq hs), hx⟩
  yld := fun i d F1 H x H' s1 s2 hd ⟨e, hy⟩ => by
    subst e
    obtain ⟨x', hx, hv⟩ := ha.get hd
    have := hy xs (s2.seq (s1.seq hs))
    rw [hx] at this
    cases this
    exact ⟨F1, Ext.refl s2, Vd.mono s1 d x hv⟩
  stop := fun i F1 H s1 s2 hi => ⟨xs, s2.seq (s1.seq hs), by rw [ha.length]; exact hi⟩
theorem walk_tup {F : Hp} {a : Addr} {xs : List V} {ds : List PyData} (hs : SqT X.K F a xs) (ha : VdAll X.K F xs ds) : WalkOk X.K (Itt X.K a) F ds where
  go := fun i F1 H s1 s2 hi => by
    obtain ⟨x, hx, _⟩ := ha.get (List.getElem?_eq_getElem hi)
    exact ⟨xs, x, same_sqT s2 (same_sqT s1 hs), hx⟩
  yld := fun i d F1 H x H' s1 s2 hd ⟨e, hy⟩ => by
    subst e
    obtain ⟨x', hx, hv⟩ := ha.get hd
    have := hy xs (same_sqT s2 (same_sqT s1 hs))
    rw [hx] at this
    cases this
    exact ⟨F1, Ext.refl s2, Vd.mono s1 d x hv⟩
  stop := fun i F1 H s1 s2 hi => ⟨xs, same_sqT s2 (same_sqT s1 hs), by rw [ha.length]; exact hi⟩
def chars (x : Str) : List PyData := x.cps.toList.map fun c => .str ⟨#[c]⟩
theorem walk_str {F : Hp} {x : Str} (hx : PyData.strOk x = true) : WalkOk X.K (Its x) F (chars x) where
  go := fun i F1 H s1 s2 hi => by
    show i < x.cps.size
    unfold chars at hi
    rw [List.length_map, Array.length_toList] at hi
    exact hi
  yld := fun i d F1 H v H' s1 s2 hd ⟨e, c, hc, hv⟩ => by
    subst e hv
    unfold chars at hd
    have hc' : x.cps.toList[i]? = some c := by rw [Array.getElem?_toList]; exact hc
    rw [List.getElem?_map, hc'] at hd
    cases hd
    refine ⟨F1, Ext.refl s2, .str _ ?_⟩
    exact strOk_at hx (i := (i : Int)) (atI_nat hc')
  stop := fun i F1 H s1 s2 hi => by
    show x.cps.size ≤ i
    unfold chars at hi
    rw [List.length_map, Array.length_toList] at hi
    exact hi
def itemsOf : PyData → Option (List PyData)
  | .list ds => some ds
  | .tuple ds => some ds
  | .str x => some (chars x)
  | _ => none
def mItems (f : Evn → RE PyData) (ρ : Evn) : RE (List PyData) := (f ρ).bind fun d => ofO (itemsOf d)
theorem PI_or3 {t t' t'' : TI} (h1 : PI X tg e t) (h2 : PI X tg e t') (h3 : PI X tg e t'') : PI X tg e (fun σ H R => t σ H R ∨ t' σ H R ∨ t'' σ H R) :=
  ⟨fun pins s σ H R I q => by rcases q with q | q | q; exact h1.run pins s σ H R I q; exact h2.run pins s σ H R I q; exact h3.run pins s σ H R I q⟩
theorem vi_items (he : VE X P e fe) : VI X P tg e (mItems fe) := PI_mono (PI_or3 (pi_list he) (pi_tup he) (pi_str he)) fun σ H Rr h => by
  obtain ⟨ρ, F, hR, h⟩ := h
  unfold mItems at h
  cases q : fe ρ with
  | bad => rw [q] at h; exact h.elim
  | exc c u =>
    rw [q] at h
    refine .inl ⟨ρ, F, hR, ?_⟩
    rw [q]; exact h
  | ok d =>
    rw [q] at h
    have h' : PV.R.post (ofO (itemsOf d)) (fun ds => ∀ J H' F', Ext F H F' H' → WalkOk X.K J F' ds → Rr J H') (fun c _ => ∀ C H' F', X.mg c = some (.ref C) → Ext F H F' H' → P.W (.ref C) none σ H') := h
    cases d with
    | list ds =>
      refine .inl ⟨ρ, F, hR, ?_⟩
      rw [q]
      intro v H' F' ex hv
      cases hv with
      | lst hs hz ha => exact ⟨_, rfl, ⟨_, (hR.step ex).fh.seq hs⟩, h' _ H' F' ex (walk_list hs ha)⟩
    | tuple ds =>
      refine .inr (.inl ⟨ρ, F, hR, ?_⟩)
      rw [q]
      intro v H' F' ex hv
      cases hv with
      | tup hs hz ha => exact ⟨_, rfl, ⟨_, same_sqT (hR.step ex).fh hs⟩, h' _ H' F' ex (walk_tup hs ha)⟩
    | str x =>
      refine .inr (.inr ⟨ρ, F, hR, ?_⟩)
      rw [q]
      intro v H' F' ex hv
      cases hv with
      | str _ hx => exact ⟨x, rfl, h' _ H' F' ex (walk_str hx)⟩
    | _ => exact h'.elim
/-! range -/
def rangeL (lo : Int) (n : Nat) : List PyData := (List.range n).map fun (i : Nat) => .int (lo + i)
theorem rangeL_len (lo : Int) (n : Nat) : (rangeL lo n).length = n := by unfold rangeL; rw [List.length_map, List.length_range]
theorem walk_range {F : Hp} (lo : Int) (n : Nat) : WalkOk X.K (Itr lo n) F (rangeL lo n) where
  go := fun i F1 H s1 s2 hi => by rw [rangeL_len] at hi; exact hi
  yld := fun i d F1 H x H' s1 s2 hd ⟨e, hx⟩ => by
    subst e hx
    unfold rangeL at hd
    rw [List.getElem?_map] at hd
    cases q : (List.range n)[i]? with
    | none => rw [q] at hd; cases hd
    | some j =>
      rw [q] at hd
      cases hd
      obtain ⟨h1, h2⟩ := List.getElem?_eq_some_iff.mp q
      rw [List.getElem_range] at h2
      subst h2
      exact ⟨F1, Ext.refl s2, .int _⟩
  stop := fun i F1 H s1 s2 hi => by rw [rangeL_len] at hi; exact hi
def r62 (i : Int) : Prop := -(2 ^ 62) ≤ i ∧ i < 2 ^ 62
instance (i : Int) : Decidable (r62 i) := by unfold r62; exact inferInstance
def rng1 : List PyData → Option (List PyData)
  | [.int j] => if r62 j then some (rangeL 0 j.toNat) else none
  | _ => none
def rng2 : List PyData → Option (List PyData)
  | [.int i, .int j] => if r62 i ∧ r62 j then some (rangeL i (j - i).toNat) else none
  | _ => none
/-- a walk of what a call gives -/
def mWk (g : List PyData → Option (List PyData)) (fa : Evn → RE (List PyData)) (ρ : Evn) : RE (List PyData) := (fa ρ).bind fun ds => ofO (g ds)
theorem firstI {σ : Sg} {H F : Hp} {ρ : Evn} {Rr : It → Hp → Prop} {g : List PyData → Option (List PyData)} {Q' : List V → Hp → Prop} (hR : Rep X.K P ρ F σ H)
    (h : (mWk g fa ρ).post (fun ds => ∀ J H' F', Ext F H F' H' → WalkOk X.K J F' ds → Rr J H') (fun c _ => ∀ C H' F', X.mg c = some (.ref C) → Ext F H F' H' → P.W (.ref C) none σ H'))
    (hq : ∀ d ds v F1 H1, VdAll X.K F1 v d → Rep X.K P ρ F1 σ H1 → g d = some ds → (∀ J H' F', Ext F1 H1 F' H' → WalkOk X.K J F' ds → Rr J H') → Q' v H1) : tAV X P fa σ H Q' := by
  refine ⟨ρ, F, hR, ?_⟩
  refine R.post_mono (R.post_bind h) (fun d q v H' F' e hv => ?_) (fun c _ q => q)
  cases e2 : g d with
  | none => rw [e2] at q; exact q.elim
  | some ds => rw [e2] at q; exact hq d ds v F' H' hv (hR.step e) e2 fun J H2 F2 e3 => q J H2 F2 (e.trans e3)
theorem vi_range1 {a : Expr} (hg : Gl X "range") (hm : X.mg "range" = none) (ha : VA X P [a] fa) (hs : starEach [a] X.env = [(false, eval a X.env)] := by rfl) : VI X P tg (.Call (.Name "range" p) [a] [] pos) (mWk rng1 fa) := PI_mono (pi_range1 hg hm ha hs) fun σ H Rr h => by
  obtain ⟨ρ, F, hR, h⟩ := h
  refine firstI hR h fun d ds vs F1 H1 hv R1 hd h1 => ?_
  unfold rng1 at hd
  split at hd
  · obtain ⟨hp, rfl⟩ := some_of_if hd
    obtain ⟨v, rfl, k1⟩ := vd1 hv
    cases k1
    exact ⟨_, rfl, hp.1, hp.2, h1 _ H1 F1 (Ext.refl R1.fh) (walk_range 0 _)⟩
  · cases hd
theorem vi_range2 {a b : Expr} (hg : Gl X "range") (hm : X.mg "range" = none) (ha : VA X P [a, b] fa) (hs : starEach [a, b] X.env = [(false, eval a X.env), (false, eval b X.env)] := by rfl) (hs2 : starEach [b] X.env = [(false, eval b X.env)] := by rfl) :
    VI X P tg (.Call (.Name "range" p) [a, b] [] pos) (mWk rng2 fa) := PI_mono (pi_range2 hg hm ha hs hs2) fun σ H Rr h => by
  obtain ⟨ρ, F, hR, h⟩ := h
  refine firstI hR h fun d ds vs F1 H1 hv R1 hd h1 => ?_
  unfold rng2 at hd
  split at hd
  · obtain ⟨hp, rfl⟩ := some_of_if hd
    obtain ⟨v, u, rfl, k1, k2⟩ := vd2 hv
    cases k1
    cases k2
    exact ⟨_, _, rfl, ⟨hp.1.1, hp.1.2, hp.2.1, hp.2.2⟩, h1 _ H1 F1 (Ext.refl R1.fh) (walk_range _ _)⟩
  · cases hd
/-! range with a step -/
def rangeC (lo c : Int) (n : Nat) : List PyData := (List.range n).map fun (i : Nat) => .int (lo + i * c)
theorem rangeC_len (lo c : Int) (n : Nat) : (rangeC lo c n).length = n := by unfold rangeC; rw [List.length_map, List.length_range]
theorem walk_rangeC {F : Hp} (lo c : Int) (n : Nat) : WalkOk X.K (Itc lo c n) F (rangeC lo c n) where
  go := fun i F1 H s1 s2 hi => by rw [rangeC_len] at hi; exact hi
  yld := fun i d F1 H x H' s1 s2 hd ⟨e, hx⟩ => by
    subst e hx
    unfold rangeC at hd
    rw [List.getElem?_map] at hd
    cases q : (List.range n)[i]? with
    | none => rw [q] at hd; cases hd
    | some j =>
      rw [q] at hd
      cases hd
      obtain ⟨h1, h2⟩ := List.getElem?_eq_some_iff.mp q
      rw [List.getElem_range] at h2
      subst h2
      exact ⟨F1, Ext.refl s2, .int _⟩
  stop := fun i F1 H s1 s2 hi => by rw [rangeC_len] at hi; exact hi
def stepOk (i j c : Int) : Prop := c ≠ 0 ∧ c.natAbs < 1073741824 ∧ Builtin.Range.small i j c = true ∧ 0 ≤ Builtin.Range.rangeSize i j c
instance (i j c : Int) : Decidable (stepOk i j c) := by unfold stepOk; exact inferInstance
def rng3 : List PyData → Option (List PyData)
  | [.int i, .int j, .int c] => if stepOk i j c then some (rangeC i c (Builtin.Range.rangeSize i j c).toNat) else none
  | _ => none
theorem vi_range3 {a b c : Expr} (hg : Gl X "range") (hm : X.mg "range" = none) (ha : VA X P [a, b, c] fa) (hs : starEach [a, b, c] X.env = (false, eval a X.env) :: starEach [b, c] X.env := by rfl) (hpl : (backTo pos (starEach [b, c] X.env)).any (·.1) = false := by rfl) :
    VI X P tg (.Call (.Name "range" p) [a, b, c] [] pos) (mWk rng3 fa) := PI_mono (pi_range3 hg hm ha hs hpl) fun σ H Rr h => by
  obtain ⟨ρ, F, hR, h⟩ := h
  refine firstI hR h fun d ds vs F1 H1 hv R1 hd h1 => ?_
  unfold rng3 at hd
  split at hd
  · obtain ⟨hp, rfl⟩ := some_of_if hd
    cases hv with
    | cons k1 hv =>
      cases hv with
      | cons k2 hv =>
        cases hv with
        | cons k3 hv =>
          cases hv
          cases k1
          cases k2
          cases k3
          exact ⟨_, _, _, _, rfl, ⟨hp.1, hp.2.1, hp.2.2.1, (Int.toNat_of_nonneg hp.2.2.2).symm⟩, h1 _ H1 F1 (Ext.refl R1.fh) (walk_rangeC _ _ _)⟩
  · cases hd
/-! enumerate, zip, reversed -/
def enumL (k : Nat) : List PyData → List PyData
  | [] => []
  | d :: r => .tuple [.int (k : Nat), d] :: enumL (k + 1) r
theorem enumL_get : ∀ (ds : List PyData) (k i : Nat), (enumL k ds)[i]? = (ds[i]?).map fun d => .tuple [.int ((k + i : Nat) : Int), d]
  | [], k, i => by simp [enumL]
  | d :: r, k, 0 => by simp [enumL]
  | d :: r, k, i + 1 => by
    simp only [enumL, List.getElem?_cons_succ, enumL_get r (k + 1) i]
    rw [show k + 1 + i = k + (i + 1) from by omega]
theorem enumL_len : ∀ (ds : List PyData) (k : Nat), (enumL k ds).length = ds.length
  | [], _ => rfl
  | d :: r, k => by simp only [enumL, List.length_cons, enumL_len r]
theorem two_line : 2 ≤ sizeLine := by rw [sizeLine_eq]; omega
theorem new_pair {F H : Hp} {T : Addr} {x y : V} {d e : PyData} (sf : Same F H) (n : H T = none) (h1 : Vd X.K F x d) (h2 : Vd X.K F y e) : ∃ F', Ext F H F' (upd H T (.tup [x, y])) ∧ Vd X.K F' (.ref T) (.tuple [d, e]) :=
  ⟨upd F T (.tup [x, y]), Ext.new sf n, .tup (SqT.of upd_same) two_line (VdAll.mono (same_upd (sf.free n)) _ _ (.cons h1 (.cons h2 .nil)))⟩
theorem walk_enum {F : Hp} {a : Addr} {xs : List V} {ds : List PyData} (hs : SqL X.K F a xs) (ha : VdAll X.K F xs ds) : WalkOk X.K (Ite X.K a) F (enumL 0 ds) where
  go := fun i F1 H s1 s2 hi => by
    rw [enumL_len] at hi
    obtain ⟨x, hx, _⟩ := ha.get (List.getElem?_eq_getElem hi)
    exact ⟨xs, x, s2.seq (s1.seq hs), hx⟩
  yld := fun i d F1 H x H' s1 s2 hd ⟨T, y, e1, n, e2, hy⟩ => by
    subst e1 e2
    rw [enumL_get] at hd
    cases q : ds[i]? with
    | none => rw [q] at hd; cases hd
    | some d' =>
      rw [q] at hd
      cases hd
      obtain ⟨x', hx, hv⟩ := ha.get q
      have := hy xs (s2.seq (s1.seq hs))
      rw [hx] at this
      cases this
      rw [Nat.zero_add]
      exact new_pair s2 n (.int _) (Vd.mono s1 d' _ hv)
  stop := fun i F1 H s1 s2 hi => ⟨xs, s2.seq (s1.seq hs), by rw [ha.length, ← enumL_len ds 0]; exact hi⟩
def enum1 : List PyData → Option (List PyData)
  | [.list ds] => some (enumL 0 ds)
  | _ => none
theorem vi_enum {e : Expr} {elts : List Expr} {kk : Nat} {tpos : Pos} (hg : Gl X "enumerate") (hm : X.mg "enumerate" = none) (ha : VA X P [e] fa) (hs : starEach [e] X.env = [(false, eval e X.env)] := by rfl) :
    VI X P (.Tuple elts kk tpos) (.Call (.Name "enumerate" p) [e] [] pos) (mWk enum1 fa) := PI_mono (pi_enum hg hm ha hs) fun σ H Rr h => by
  obtain ⟨ρ, F, hR, h⟩ := h
  refine firstI hR h fun d ds vs F1 H1 hv R1 hd h1 => ?_
  unfold enum1 at hd
  split at hd
  · cases hd
    obtain ⟨v, rfl, k1⟩ := vd1 hv
    cases k1 with
    | lst hs hz ha => exact ⟨_, _, rfl, R1.fh.seq hs, h1 _ H1 F1 (Ext.refl R1.fh) (walk_enum hs ha)⟩
  · cases hd
def zipL : List PyData → List PyData → List PyData
  | d :: r, e :: s => .tuple [d, e] :: zipL r s
  | _, _ => []
theorem zipL_get : ∀ (ds es : List PyData) (i : Nat) (z : PyData), (zipL ds es)[i]? = some z → ∃ d e, ds[i]? = some d ∧ es[i]? = some e ∧ z = .tuple [d, e]
  | [], _, i, z, h => by simp [zipL] at h
  | d :: r, [], i, z, h => by simp [zipL] at h
  | d :: r, e :: s, 0, z, h => by simp only [zipL, List.getElem?_cons_zero, Option.some.injEq] at h; exact ⟨d, e, rfl, rfl, h.symm⟩
  | d :: r, e :: s, i + 1, z, h => by
    simp only [zipL, List.getElem?_cons_succ] at h
    obtain ⟨d', e', h1, h2, h3⟩ := zipL_get r s i z h
    exact ⟨d', e', by simpa using h1, by simpa using h2, h3⟩
theorem zipL_len : ∀ (ds es : List PyData), (zipL ds es).length = min ds.length es.length
  | [], _ => by simp [zipL]
  | d :: r, [] => by simp [zipL]
  | d :: r, e :: s => by simp only [zipL, List.length_cons, zipL_len r s]; omega
theorem walk_zip {F : Hp} {a b : Addr} {xs ys : List V} {ds es : List PyData} (hs : SqL X.K F a xs) (ha : VdAll X.K F xs ds) (hs2 : SqL X.K F b ys) (hb : VdAll X.K F ys es) : WalkOk X.K (Itz X.K a b) F (zipL ds es) where
  go := fun i F1 H s1 s2 hi => by
    rw [zipL_len] at hi
    obtain ⟨x, hx, _⟩ := ha.get (List.getElem?_eq_getElem (show i < ds.length by omega))
    obtain ⟨y, hy, _⟩ := hb.get (List.getElem?_eq_getElem (show i < es.length by omega))
    exact ⟨xs, ys, x, y, s2.seq (s1.seq hs), s2.seq (s1.seq hs2), hx, hy⟩
  yld := fun i d F1 H x H' s1 s2 hd ⟨T, y, z, e1, n, e2, hy, hz⟩ => by
    subst e1 e2
    obtain ⟨d', e', h1, h2, rfl⟩ := zipL_get _ _ _ _ hd
    obtain ⟨x', hx, hv⟩ := ha.get h1
    obtain ⟨y', hy', hv2⟩ := hb.get h2
    have q1 := hy xs (s2.seq (s1.seq hs))
    rw [hx] at q1
    cases q1
    have q2 := hz ys (s2.seq (s1.seq hs2))
    rw [hy'] at q2
    cases q2
    exact new_pair s2 n (Vd.mono s1 d' _ hv) (Vd.mono s1 e' _ hv2)
  stop := fun i F1 H s1 s2 hi => by
    rw [zipL_len] at hi
    have l1 := ha.length
    have l2 := hb.length
    exact ⟨xs, ys, s2.seq (s1.seq hs), s2.seq (s1.seq hs2), by omega⟩
def zip2 : List PyData → Option (List PyData)
  | [.list ds, .list es] => some (zipL ds es)
  | _ => none
theorem vi_zip {e e2 : Expr} {elts : List Expr} {kk : Nat} {tpos : Pos} (hg : Gl X "zip") (hm : X.mg "zip" = none) (ha : VA X P [e, e2] fa) (hs : starEach [e, e2] X.env = (false, eval e X.env) :: starEach [e2] X.env := by rfl) (hpl : (backTo pos (starEach [e2] X.env)).any (·.1) = false := by rfl) :
    VI X P (.Tuple elts kk tpos) (.Call (.Name "zip" p) [e, e2] [] pos) (mWk zip2 fa) := PI_mono (pi_zip hg hm ha hs hpl) fun σ H Rr h => by
  obtain ⟨ρ, F, hR, h⟩ := h
  refine firstI hR h fun d ds vs F1 H1 hv R1 hd h1 => ?_
  unfold zip2 at hd
  split at hd
  · cases hd
    obtain ⟨v, u, rfl, k1, k2⟩ := vd2 hv
    cases k1 with
    | lst hs hz ha =>
      cases k2 with
      | lst hs2 hz2 ha2 => exact ⟨_, _, _, _, rfl, R1.fh.seq hs, R1.fh.seq hs2, h1 _ H1 F1 (Ext.refl R1.fh) (walk_zip hs ha hs2 ha2)⟩
  · cases hd
theorem rev_get {α : Type} (ds : List α) {i : Nat} (h : i < ds.length) : ds.reverse[i]? = ds[ds.length - 1 - i]? := List.getElem?_reverse h
theorem walk_rev {F : Hp} {a : Addr} {xs : List V} {ds : List PyData} (hs : SqL X.K F a xs) (ha : VdAll X.K F xs ds) : WalkOk X.K (Itv X.K a xs.length) F ds.reverse where
  go := fun i F1 H s1 s2 hi => by
    rw [List.length_reverse, ← ha.length] at hi
    exact ⟨hi, xs, xs[xs.length - 1 - i], s2.seq (s1.seq hs), List.getElem?_eq_getElem (by omega)⟩
  yld := fun i d F1 H x H' s1 s2 hd ⟨e, hy⟩ => by
    subst e
    have hl : i < ds.length := by
      have := (List.getElem?_eq_some_iff.mp hd).1
      rwa [List.length_reverse] at this
    rw [rev_get ds hl] at hd
    obtain ⟨x', hx, hv⟩ := ha.get hd
    have := hy xs (s2.seq (s1.seq hs))
    rw [ha.length, hx] at this
    cases this
    exact ⟨F1, Ext.refl s2, Vd.mono s1 d x hv⟩
  stop := fun i F1 H s1 s2 hi => by
    rw [List.length_reverse, ← ha.length] at hi
    exact hi
def rev1 : PyData → Option (List PyData)
  | .list ds => some ds.reverse
  | .tuple ds => some ds.reverse
  | _ => none
def mRev (f : Evn → RE PyData) (ρ : Evn) : RE (List PyData) := (f ρ).bind fun d => ofO (rev1 d)
theorem walk_revT {F : Hp} {a : Addr} {xs : List V} {ds : List PyData} (hs : SqT X.K F a xs) (ha : VdAll X.K F xs ds) : WalkOk X.K (ItvT X.K a xs.length) F ds.reverse where
  go := fun i F1 H s1 s2 hi => by
    rw [List.length_reverse, ← ha.length] at hi
    exact ⟨hi, xs, xs[xs.length - 1 - i], same_sqT s2 (same_sqT s1 hs), List.getElem?_eq_getElem (by omega)⟩
  yld := fun i d F1 H x H' s1 s2 hd ⟨e, hy⟩ => by
    subst e
    have hl : i < ds.length := by
      have := (List.getElem?_eq_some_iff.mp hd).1
      rwa [List.length_reverse] at this
    rw [rev_get ds hl] at hd
    obtain ⟨x', hx, hv⟩ := ha.get hd
    have := hy xs (same_sqT s2 (same_sqT s1 hs))
    rw [ha.length, hx] at this
    cases this
    exact ⟨F1, Ext.refl s2, Vd.mono s1 d x hv⟩
  stop := fun i F1 H s1 s2 hi => by
    rw [List.length_reverse, ← ha.length] at hi
    exact hi
theorem vi_rev {e : Expr} (hg : Gl X "reversed") (hm : X.mg "reversed" = none) (he : VE X P e fe) (hs : starEach [e] X.env = (false, eval e X.env) :: starEach [] X.env := by rfl) : VI X P tg (.Call (.Name "reversed" p) [e] [] pos) (mRev fe) := PI_mono (pi_revA hg hm he hs) fun σ H Rr h => by
  obtain ⟨ρ, F, hR, h⟩ := h
  refine ⟨ρ, F, hR, ?_⟩
  refine R.post_mono (R.post_bind h) (fun d q v H' F' ex hv => ?_) (fun c _ q => q)
  have sf := (hR.step ex).fh
  cases hv with
  | lst hs hz ha => exact ⟨_, _, rfl, .inl ⟨sf.seq hs, q _ H' F' ex (walk_rev hs ha)⟩⟩
  | tup hs hz ha => exact ⟨_, _, rfl, .inr ⟨same_sqT sf hs, q _ H' F' ex (walk_revT hs ha)⟩⟩
  | _ => exact q.elim
end
end PV
end
section
set_option Elab.async false
set_option linter.all false
set_option maxRecDepth 100000
set_option maxHeartbeats 4000000
namespace PV
open PySem PySem.Spec PyProof.Rows L2

/-! ### loops -/
def forM (m : PyData → Evn → Option Evn) (body : Evn → RS) : List PyData → Evn → RS
  | [], ρ => .ok (.nx, ρ)
  | d :: r, ρ => (oS (m d ρ)).bind fun ρ1 => (body ρ1).bind fun p => match p.1 with
    | .nx => forM m body r p.2
    | .ct => forM m body r p.2
    | .bk => .ok (.nx, p.2)
    | .rt d => .ok (.rt d, p.2)
def sFor (g : Evn → RE (List PyData)) (m : PyData → Evn → Option Evn) (body : Evn → RS) (ρ : Evn) : RS := ((g ρ).at ρ).bind fun ds => forM m body ds ρ
def whileM (c : Evn → RE Bool) (body : Evn → RS) : Nat → Evn → RS
  | 0, _ => .bad
  | n + 1, ρ => ((c ρ).at ρ).bind fun b => if b then (body ρ).bind fun p => match p.1 with
    | .nx => whileM c body n p.2
    | .ct => whileM c body n p.2
    | .bk => .ok (.nx, p.2)
    | .rt d => .ok (.rt d, p.2)
    else .ok (.nx, ρ)
section
variable {X : Cx} {P : Pm} {pos : Pos} {tg iter : Expr} {body : List Stmt} {g : Evn → RE (List PyData)} {m : PyData → Evn → Option Evn} {fb : Evn → RS} {fc : Evn → RE Bool}
theorem vs_for {js : List Nat} (hp : PassesOwn (model X.prog X.w) X.A X.env X.xe) (hc : X.calm = true) (hi : VI X P tg iter g) (hg : VG X P tg m js) (hb : VSs X P body fb) (hs : ∀ x, foldedSetIterable iter X.env x = pure x := by intro _; rfl) : VS X P (.For tg iter body [] pos) (sFor g m fb) :=
  PS_mono (ps_for hp hc hi hg hb hs) fun D σ H h => by
    obtain ⟨ρ, F, hR, h⟩ := h
    refine ⟨ρ, F, hR, ?_⟩
    unfold sFor at h
    cases q : g ρ with
    | bad => rw [q] at h; exact h.elim
    | exc c u => rw [q] at h; exact fun C H' F' hm ex => h C σ H' F' hm ex.ff (hR.step ex)
    | ok ds =>
      rw [q] at h
      have h' : OutS X P D F (forM m fb ds ρ) := h
      intro J H0 F0 ex wk
      refine ⟨fun i k σ H => k = ds.length - i ∧ i ≤ ds.length ∧ ∃ ρ F1, Same F0 F1 ∧ Rep X.K P ρ F1 σ H ∧ OutS X P D F1 (forM m fb (ds.drop i) ρ), ⟨ds.length, by simp, Nat.zero_le _, ρ, F0, Same.refl _, hR.step ex, by rw [List.drop_zero]; exact OutS.step h' ex.ff⟩, ?_⟩
      rintro i k σ1 H1 ⟨rfl, hi, ρ1, F1, s1, R1, h1⟩
      by_cases hlt : i < ds.length
      · right
        refine ⟨wk.go i F1 H1 s1 R1.fh hlt, fun σ' H' => ∃ ρ F2, Same F0 F2 ∧ Rep X.K P ρ F2 σ' H' ∧ OutS X P D F2 (forM m fb (ds.drop (i + 1)) ρ), fun σ' H' n => ⟨ds.length - (i + 1), by omega, rfl, hlt, n⟩, fun x H' y => ?_⟩
        obtain ⟨F2, e2, hv⟩ := wk.yld i _ F1 H1 x H' s1 R1.fh (List.getElem?_eq_getElem hlt) y
        rw [List.drop_eq_getElem_cons hlt] at h1
        have R2 := R1.step e2
        have h2 := OutS.step h1 e2.ff
        unfold forM at h2
        cases q2 : m ds[i] ρ1 with
        | none => rw [q2] at h2; exact h2.elim
        | some ρ2 =>
          rw [q2] at h2
          refine ⟨ρ1, F2, _, ρ2, R2, hv, q2, fun σ2 r2 _ => ⟨ρ2, F2, r2, ?_⟩⟩
          have h3 : OutS X P D F2 ((fb ρ2).bind fun p => match p.1 with
            | .nx => forM m fb (ds.drop (i + 1)) p.2
            | .ct => forM m fb (ds.drop (i + 1)) p.2
            | .bk => .ok (.nx, p.2)
            | .rt d => .ok (.rt d, p.2)) := h2
          have s02 := s1.trans e2.ff
          cases q3 : fb ρ2 with
          | bad => rw [q3] at h3; exact h3.elim
          | exc c ρ3 => rw [q3] at h3; exact h3
          | ok p =>
            rw [q3] at h3
            obtain ⟨fl, ρ3⟩ := p
            cases fl with
            | nx => exact fun σ' H' F' s r => ⟨ρ3, F', s02.trans s, r, OutS.step h3 s⟩
            | ct => exact fun σ' H' F' s r => ⟨ρ3, F', s02.trans s, r, OutS.step h3 s⟩
            | bk => exact h3
            | rt d => exact h3
      · left
        have e : ds.drop i = [] := List.drop_eq_nil_of_le (by omega)
        rw [e] at h1
        exact ⟨wk.stop i F1 H1 s1 R1.fh (by omega), h1 σ1 H1 F1 (Same.refl _) R1⟩
theorem vs_while (fuel : Nat) {c : Expr} (hp : PassesOwn (model X.prog X.w) X.A X.env X.xe) (hc : VT X P c fc) (hb : VSs X P body fb) : VS X P (.While c body [] pos) (whileM fc fb fuel) :=
  PS_mono (ps_while hp hc hb) fun D σ H h => by
    obtain ⟨ρ, F, hR, h⟩ := h
    refine ⟨fun k σ H => ∃ ρ F, Rep X.K P ρ F σ H ∧ OutS X P D F (whileM fc fb k ρ), ⟨fuel, ρ, F, hR, h⟩, ?_⟩
    rintro k σ1 H1 ⟨ρ1, F1, R1, h1⟩
    cases k with
    | zero => exact h1.elim
    | succ k =>
      unfold whileM at h1
      refine OutS.firstB R1 h1 fun b F2 H2 e2 R2 h2 => ?_
      cases b with
      | false => rw [if_neg (by decide)]; exact h2 σ1 H2 F2 (Same.refl _) R2
      | true =>
        rw [if_pos rfl]
        refine ⟨fun σ' H' => ∃ ρ F, Rep X.K P ρ F σ' H' ∧ OutS X P D F (whileM fc fb k ρ), fun σ' H' n => ⟨k, Nat.lt_succ_self _, n⟩, ρ1, F2, R2, ?_⟩
        have h3 : OutS X P D F2 ((fb ρ1).bind fun p => match p.1 with
          | .nx => whileM fc fb k p.2
          | .ct => whileM fc fb k p.2
          | .bk => .ok (.nx, p.2)
          | .rt d => .ok (.rt d, p.2)) := h2
        cases q3 : fb ρ1 with
        | bad => rw [q3] at h3; exact h3.elim
        | exc c ρ3 => rw [q3] at h3; exact h3
        | ok p =>
          rw [q3] at h3
          obtain ⟨fl, ρ3⟩ := p
          cases fl with
          | nx => exact fun σ' H' F' s r => ⟨ρ3, F', r, OutS.step h3 s⟩
          | ct => exact fun σ' H' F' s r => ⟨ρ3, F', r, OutS.step h3 s⟩
          | bk => exact h3
          | rt d => exact h3
end

/-! ### comprehensions -/
/-- in a block no exception is let out -/
abbrev Pm.nx (P : Pm) : Pm := ⟨P.B, P.F0, fun _ _ _ _ => False, P.E⟩
theorem Rep.nx {K : PySem.W.Frag} {P : Pm} {ρ : Evn} {F H : Hp} {σ : Sg} (r : Rep K P ρ F σ H) : Rep K P.nx ρ F σ H := ⟨r.len, r.ext, r.slot, r.sep⟩
def wipeE (ρ : Evn) : List Nat → Evn
  | [] => ρ
  | v :: vs => (wipeE ρ vs).set v none
theorem Rep.wipe {K : PySem.W.Frag} {P : Pm} {ρ : Evn} {F H : Hp} {σ : Sg} (r : Rep K P ρ F σ H) : ∀ vs : List Nat, Rep K P (wipeE ρ vs) F (L2.wipe σ vs) H
  | [] => r
  | v :: vs => (Rep.wipe r vs).setNone
/-- a fresh list: it stands beside the still part -/
def OutF (X : Cx) (P : Pm) (σ : Sg) (Q : VK) (F H : Hp) (r : RE (List PyData)) : Prop :=
  r.post (fun ds => ∀ p xs H' F', Ext F H F' H' → H p = none → F' p = none → H' p = some (.lst xs) → xs.length ≤ sizeLine → VdAll X.K F' xs ds → Q (.ref p) H') (fun c _ => ∀ C H' F', X.mg c = some (.ref C) → Ext F H F' H' → P.W (.ref C) none σ H')
def tFV (X : Cx) (P : Pm) (f : Evn → RE (List PyData)) : TE := fun σ H Q => ∃ ρ F, Rep X.K P ρ F σ H ∧ OutF X P σ Q F H (f ρ)
def VF (X : Cx) (P : Pm) (e : Expr) (f : Evn → RE (List PyData)) : Prop := PE X e (tFV X P f)
def mL (f : Evn → RE (List PyData)) (ρ : Evn) : RE PyData := (f ρ).bind fun ds => .ok (.list ds)
theorem VF.v {X : Cx} {P : Pm} {e : Expr} {f : Evn → RE (List PyData)} (h : VF X P e f) : VE X P e (mL f) := PE_mono h fun σ H Q h => by
  obtain ⟨ρ, F, hR, h⟩ := h
  refine ⟨ρ, F, hR, ?_⟩
  refine R.post_mono (R.post_bind h) (fun ds q p xs H' F' ex n nf h1 hz hv => ?_) (fun c _ q => q)
  exact q _ H' (upd F' p (.lst xs)) (Ext.still ex h1 n nf) (.lst (SqL.of upd_same) hz (VdAll.mono (same_upd nf) ds xs hv))
def nox {α : Type} : RE α → RE α
  | .exc _ _ => .bad
  | x => x
theorem nox_ok {α : Type} {x : RE α} {Q : α → Prop} {E : Str → Unit → Prop} (h : (nox x).post Q E) : ∃ a, x = .ok a ∧ Q a := by
  cases x with
  | ok a => exact ⟨a, rfl, h⟩
  | exc c e => exact h.elim
  | bad => exact h.elim
def lcM (m : PyData → Evn → Option Evn) (t : Evn → RE Bool) (e : Evn → RE PyData) (ρ : Evn) : List PyData → RE (List PyData)
  | [] => .ok []
  | d :: r => (ofO (m d ρ)).bind fun ρ1 => (nox (t ρ1)).bind fun b => if b then (nox (e ρ1)).bind fun x => (lcM m t e ρ r).bind fun xs => .ok (x :: xs) else lcM m t e ρ r
/-- .. with what is made so far -/
def lcA (m : PyData → Evn → Option Evn) (t : Evn → RE Bool) (e : Evn → RE PyData) (ρ : Evn) : List PyData → List PyData → RE (List PyData)
  | [], acc => .ok acc
  | d :: r, acc => (ofO (m d ρ)).bind fun ρ1 => (nox (t ρ1)).bind fun b => if b then (nox (e ρ1)).bind fun x => lcA m t e ρ r (acc ++ [x]) else lcA m t e ρ r acc
theorem bind_assoc {ε α β γ : Type} (x : R ε α) (f : α → R ε β) (g : β → R ε γ) : (x.bind f).bind g = x.bind fun a => (f a).bind g := by cases x <;> rfl
theorem lcA_eq (m : PyData → Evn → Option Evn) (t : Evn → RE Bool) (e : Evn → RE PyData) (ρ : Evn) : ∀ (ds acc : List PyData), lcA m t e ρ ds acc = (lcM m t e ρ ds).bind fun xs => .ok (acc ++ xs)
  | [], acc => by simp [lcA, lcM, R.bind]
  | d :: r, acc => by
    unfold lcA lcM
    rw [bind_assoc]
    congr 1
    funext ρ1
    rw [bind_assoc]
    congr 1
    funext b
    cases b with
    | true =>
      simp only [if_true]
      rw [bind_assoc]
      congr 1
      funext x
      rw [lcA_eq m t e ρ r, bind_assoc]
      congr 1
      funext xs
      simp [R.bind]
    | false => simp only [Bool.false_eq_true, if_false]; exact lcA_eq m t e ρ r acc
/-- a list comprehension: vs the block's own names -/
def mLc (g : Evn → RE (List PyData)) (m : PyData → Evn → Option Evn) (t : Evn → RE Bool) (e : Evn → RE PyData) (vs : List Nat) (ρ : Evn) : RE (List PyData) := (g ρ).bind fun ds => if ds.length ≤ sizeLine then lcM m t e (wipeE ρ vs) ds else .bad
def mYes (_ : Evn) : RE Bool := .ok true
theorem wipe_idem {σ : Sg} {vs : List Nat} : L2.wipe (L2.wipe σ vs) vs = L2.wipe σ vs := by
  have key : ∀ ws : List Nat, (∀ i ∈ ws, i ∈ vs) → L2.wipe (L2.wipe σ ws) vs = L2.wipe σ vs := fun ws => by
    induction ws with
    | nil => intro _; rfl
    | cons w ws ih =>
      intro h
      show L2.wipe ((L2.wipe σ ws).set w none) vs = _
      rw [wipe_set (h w List.mem_cons_self)]
      exact ih fun i hi => h i (List.mem_cons_of_mem _ hi)
  exact key vs fun _ h => h
def VTs (X : Cx) (P : Pm) (ifs : List Expr) (f : Evn → RE Bool) : Prop := PTs X ifs (tTV X P f)
theorem PTs_mono {X : Cx} {e : List Expr} {t t' : TT} (h : PTs X e t) (m : ∀ σ H Q, t' σ H Q → t σ H Q) : PTs X e t' := ⟨fun pins s σ H Q I q => h.run pins s σ H Q I (m σ H Q q)⟩
section
variable {X : Cx} {P : Pm} {pos : Pos} {elt tg iter : Expr} {ifs : List Expr} {scope : Scope} {own : List (Str × Nat)} {g : Evn → RE (List PyData)} {m : PyData → Evn → Option Evn} {t : Evn → RE Bool} {fe : Evn → RE PyData} {js : List Nat}
theorem vts_nil : VTs X P [] mYes := PTs_mono pts_nil fun σ H Q h => by
  obtain ⟨ρ, F, hR, h⟩ := h
  exact h H F (Ext.refl hR.fh)
theorem vts_one {c : Expr} (h : VT X P c t) : VTs X P [c] t := pts_one h
theorem wipeE_some {ρ : Evn} {i : Nat} {c : Cel} : ∀ {vs : List Nat}, (wipeE ρ vs)[i]? = some (some c) → ρ[i]? = some (some c) ∧ i ∉ vs
  | [], h => ⟨h, by simp⟩
  | v :: vs, h => by
    unfold wipeE at h
    by_cases hi : v = i
    · subst hi
      have hl : v < (wipeE ρ vs).length := by
        have := (List.getElem?_eq_some_iff.mp h).1
        rwa [List.length_set] at this
      rw [List.getElem?_set_self hl] at h
      cases h
    · rw [List.getElem?_set_ne hi] at h
      obtain ⟨h1, h2⟩ := wipeE_some h
      exact ⟨h1, by simp only [List.mem_cons, not_or]; exact ⟨fun e => hi e.symm, h2⟩⟩
theorem Rep.other {K : PySem.W.Frag} {P : Pm} {ρ : Evn} {F H : Hp} {σ : Sg} {D : Addr} {o : HO} (r : Rep K P ρ F σ H) (hb : P.B D = none) (hf : F D = none) (no : ∀ (i : Nat) (ds : List PyData), ρ[i]? = some (some (.own ds)) → σ[i]? ≠ some (some (.ref D))) : Rep K P ρ F σ (upd H D o) := by
  have sm : ∀ {G : Hp}, G D = none → Same G H → Same G (upd H D o) := fun {G} n s b u e => by
    rw [upd_ne (ne_of_none e n)]; exact s b u e
  refine ⟨r.len, ⟨sm hb r.ext.hh, r.ext.ff, sm hf r.ext.fh, r.ext.nw⟩, fun i c q => ?_, r.sep⟩
  obtain ⟨v, h1, h2⟩ := r.slot i c q
  refine ⟨v, h1, ?_⟩
  cases c with
  | val d => exact h2
  | exn c => exact h2
  | own ds =>
    obtain ⟨a, xs, ev, b1, b2, b3, b4, b5⟩ := h2
    subst ev
    refine ⟨a, xs, rfl, b1, b2, ?_, b4, b5⟩
    rw [upd_ne]
    · exact b3
    · intro e
      subst e
      exact no i ds q h1
/-- the reading of a comprehension: the new list at D stands beside the still part -/
theorem rdLc {σ : Sg} {H : Hp} {Q : VK} {vs : List Nat} (hjs : ∀ i ∈ js, i ∈ vs) (h : tFV X P (mLc g m t fe vs) σ H Q) : tLc (tIV X P g) (tG X P.nx m js) (tTV X P.nx t) (tV X P.nx fe) vs σ H Q := by
  obtain ⟨ρ, F, hR, h⟩ := h
  refine ⟨ρ, F, hR, ?_⟩
  refine R.post_mono (R.post_bind h) (fun ds q J H0 F0 ex wk => ?_) (fun c _ q => q)
  by_cases hz : ds.length ≤ sizeLine
  case neg => rw [if_neg hz] at q; exact q.elim
  rw [if_pos hz] at q
  intro D hD
  have f0 : F0 D = none := (hR.step ex).fh.free hD
  have R0 := ((hR.step ex).step (Ext.beside (o := .lst []) (hR.step ex).fh hD)).nx.wipe vs
  have hHD : H D = none := ex.hh.free hD
  have hBD : P.B D = none := hR.ext.hh.free hHD
  have noD : ∀ (i : Nat) (ds : List PyData), (wipeE ρ vs)[i]? = some (some (.own ds)) → (L2.wipe σ vs)[i]? ≠ some (some (.ref D)) := fun i ds e1 e2 => by
    obtain ⟨e3, _⟩ := wipeE_some e1
    obtain ⟨e4, _⟩ := L2.wipe_some e2
    obtain ⟨v, e5, a, xs, e6, _, _, e7, _⟩ := hR.slot i _ e3
    rw [e4] at e5
    cases e5
    cases e6
    rw [hHD] at e7
    cases e7
  -- what is left gives the answer
  let Go : Nat → Hp → Prop := fun i H1 => ∃ acc xs F1, Same F0 F1 ∧ Ext F H F1 H1 ∧ F1 D = none ∧ H1 D = some (.lst xs) ∧ xs.length ≤ i ∧ VdAll X.K F1 xs acc ∧ Rep X.K P.nx (wipeE ρ vs) F1 (L2.wipe σ vs) H1 ∧
    (lcA m t fe (wipeE ρ vs) (ds.drop i) acc).post (fun ys => ∀ p xs H' F', Ext F H F' H' → H p = none → F' p = none → H' p = some (.lst xs) → xs.length ≤ sizeLine → VdAll X.K F' xs ys → Q (.ref p) H') (fun _ _ => True)
  refine ⟨fun i k H1 => k = ds.length - i ∧ i ≤ ds.length ∧ Go i H1, ⟨ds.length, by simp, Nat.zero_le _, [], [], F0, Same.refl _, ex.trans (Ext.beside (hR.step ex).fh hD), f0, upd_same, Nat.zero_le _, .nil, R0, ?_⟩, ?_⟩
  · rw [List.drop_zero, lcA_eq]
    cases q2 : lcM m t fe (wipeE ρ vs) ds with
    | ok ys => rw [q2] at q; exact q
    | exc c u => trivial
    | bad => rw [q2] at q; exact q.elim
  rintro i k H1 ⟨rfl, hi, acc, xs, F1, s1, e1, d1, hd1, hl1, ha1, R1, p1⟩
  have sf1 : Same F1 H1 := e1.fh
  by_cases hlt : i < ds.length
  · right
    refine ⟨wk.go i F1 H1 s1 sf1 hlt, Go (i + 1), fun H' n => ⟨ds.length - (i + 1), by omega, rfl, hlt, n⟩, fun x H2 y => ?_⟩
    obtain ⟨F2, e2, hv⟩ := wk.yld i _ F1 H1 x H2 s1 sf1 (List.getElem?_eq_getElem hlt) y
    rw [List.drop_eq_getElem_cons hlt] at p1
    have R2 := R1.step e2
    have nD : ∀ {F' H' : Hp}, Ext F1 H1 F' H' → F' D = none := fun {F' H'} e => by
      cases q3 : F' D with
      | none => rfl
      | some o =>
        rcases e.nw D o q3 with z | z
        · rw [d1] at z; cases z
        · rw [hd1] at z; cases z
    unfold lcA at p1
    cases q2 : m ds[i] (wipeE ρ vs) with
    | none => rw [q2] at p1; exact p1.elim
    | some ρ2 =>
      rw [q2] at p1
      refine ⟨wipeE ρ vs, F2, _, ρ2, R2, hv, q2, fun σ2 R3 b => ⟨(b vs hjs).trans wipe_idem, ?_⟩⟩
      refine ⟨ρ2, F2, R3, ?_⟩
      have p2 := R.post_bind (x := nox (t ρ2)) (f := fun b => if b = true then (nox (fe ρ2)).bind fun x => lcA m t fe (wipeE ρ vs) (ds.drop (i + 1)) (acc ++ [x]) else lcA m t fe (wipeE ρ vs) (ds.drop (i + 1)) acc) p1
      obtain ⟨b, q4, p3⟩ := nox_ok p2
      rw [q4]
      intro H3 F3 e3
      have e13 := e2.trans e3
      cases b with
      | false =>
        rw [if_neg (by decide)]
        rw [if_neg (by decide)] at p3
        exact ⟨acc, xs, F3, s1.trans e13.ff, e1.trans e13, nD e13, e13.hh D _ hd1, by omega, VdAll.mono e13.ff _ _ ha1, R1.step e13, p3⟩
      | true =>
        rw [if_pos rfl]
        rw [if_pos rfl] at p3
        obtain ⟨d, q5, p4⟩ := nox_ok (R.post_bind p3)
        refine ⟨ρ2, F3, R3.step e3, ?_⟩
        rw [q5]
        intro v H4 F4 e4 hv4
        have e14 := e13.trans e4
        have f4 : F4 D = none := nD e14
        have e := e1.trans e14
        have s4 : ∀ {G : Hp}, G D = none → Same G H4 → Same G (upd H4 D (.lst (xs ++ [v]))) := fun {G} n s b u e => by
          rw [upd_ne (ne_of_none e n)]; exact s b u e
        exact ⟨xs, e14.hh D _ hd1, by omega, acc ++ [d], xs ++ [v], F4, s1.trans e14.ff, ⟨s4 hHD e.hh, e.ff, s4 f4 e.fh, e.nw⟩, f4, upd_same, by rw [List.length_append]; show _ + 1 ≤ _; omega, (VdAll.mono e14.ff _ _ ha1).append (.cons hv4 .nil), (R1.step e14).other hBD f4 noD, p4⟩
  · left
    have e : ds.drop i = [] := List.drop_eq_nil_of_le (by omega)
    rw [e] at p1
    exact ⟨wk.stop i F1 H1 s1 sf1 (by omega), p1 D xs H1 F1 e1 hHD d1 hd1 (by omega) ha1⟩
theorem vf_lc {vs : List Nat} (hc : X.calm = true) (hN : X.N.Nodup) (hi : VI X P tg iter g) (ok : BlkOk X.N X.env.scope scope own)
    (hg : ∀ (s : Shared) (H : Hp) (C : Addr) (cl : List (Str × Addr)) (fp : List Addr), VG (X.blk s H scope (compEnvC scope cl C X.env) fp) P.nx tg m js) (ht : ∀ (s : Shared) (H : Hp) (C : Addr) (cl : List (Str × Addr)) (fp : List Addr), VTs (X.blk s H scope (compEnvC scope cl C X.env) fp) P.nx ifs t)
    (he : ∀ (s : Shared) (H : Hp) (C : Addr) (cl : List (Str × Addr)) (fp : List Addr), VE (X.blk s H scope (compEnvC scope cl C X.env) fp) P.nx elt fe) (hvs : own.map (·.2) = vs := by rfl) (hjs : ∀ i ∈ js, i ∈ vs := by decide) (hs : ∀ x, foldedSetIterable iter X.env x = pure x := by intro _; rfl) :
    VF X P (.ListComp elt [⟨tg, iter, ifs, 0⟩] scope pos) (mLc g m t fe vs) := PE_mono (pe_lc (g := tG X P.nx m js) (tt := tTV X P.nx t) (te := tV X P.nx fe) hc hN hi ok hg ht he hs) fun σ H Q h => by subst hvs; exact rdLc hjs h
/-- name = [..] on one line, the name a plain local: the answer is still -/
def sSetL (i : Nat) (f : Evn → RE (List PyData)) (ρ : Evn) : RS := ((f ρ).at ρ).bind fun ds => .ok (.nx, ρ.set i (some (.val (.list ds))))
/-- .. the name's own -/
def sSetO (i : Nat) (f : Evn → RE (List PyData)) (ρ : Evn) : RS := ((f ρ).at ρ).bind fun ds => .ok (.nx, ρ.set i (some (.own ds)))
theorem OutS.firstF {D : Ends} {ρ : Evn} {F H : Hp} {σ : Sg} {fa : Evn → RE (List PyData)} {k : List PyData → RS} {Q' : VK} (hR : Rep X.K P ρ F σ H) (h : OutS X P D F (((fa ρ).at ρ).bind k))
    (hq : ∀ ds p xs F1 H1, Ext F H F1 H1 → H p = none → F1 p = none → H1 p = some (.lst xs) → xs.length ≤ sizeLine → VdAll X.K F1 xs ds → Rep X.K P ρ F1 σ H1 → OutS X P D F1 (k ds) → Q' (.ref p) H1) : tFV X P fa σ H Q' := by
  refine ⟨ρ, F, hR, ?_⟩
  cases q : fa ρ with
  | ok d => rw [q] at h; exact fun p xs H' F' ex n f h1 hz hv => hq d p xs F' H' ex n f h1 hz hv (hR.step ex) (OutS.step h ex.ff)
  | exc c u => rw [q] at h; exact fun C H' F' hm ex => h C σ H' F' hm ex.ff (hR.step ex)
  | bad => rw [q] at h; exact h.elim
theorem rdSetO {i : Nat} {f : Evn → RE (List PyData)} {D : Ends} {σ : Sg} {H : Hp} (h : tS X P (sSetO i f) D σ H) : tAsg (tFV X P f) (gName i) D σ H := by
  obtain ⟨ρ, F, hR, h⟩ := h
  refine OutS.firstF hR h fun ds p xs F1 H1 ex n f h1 hz hv R1 k => ?_
  refine k _ H1 F1 (Same.refl _) (R1.setOwn (hR.ext.hh.free n) f h1 hz hv fun j es _ q1 q2 => ?_)
  obtain ⟨v, e1, a, ys, e2, _, _, e3, _⟩ := hR.slot j _ q1
  rw [q2] at e1
  cases e1
  cases e2
  rw [n] at e3
  cases e3
theorem rdSetL {i : Nat} {f : Evn → RE (List PyData)} {D : Ends} {σ : Sg} {H : Hp} (h : tS X P (sSetL i f) D σ H) : tAsg (tFV X P f) (gName i) D σ H := by
  obtain ⟨ρ, F, hR, h⟩ := h
  refine OutS.firstF hR h fun ds p xs F1 H1 ex n f h1 hz hv R1 k => ?_
  have e2 := Ext.still ex h1 n f
  exact k _ H1 _ (same_upd f) ((hR.step e2).setVal (.lst (SqL.of upd_same) hz (VdAll.mono (same_upd f) ds xs hv)))
theorem vs_setO (i : Nat) {x : Str} {pos' : Pos} {e : Expr} {f : Evn → RE (List PyData)} (hN : X.N.Nodup) (he : VF X P e f) (hi : X.N[i]? = some x := by rfl) (hx : Loc X.env.scope x := by first | exact Or.inl rfl | exact Or.inr rfl) (hs : swapsWith e (some (.Name x pos')) pos.line X.env = pure false := by rfl)
    (hf : X.fn x = true ∨ X.env.scope.names.lookup x = some .local := by first | exact .inl rfl | exact .inr rfl) : VS X P (.Assign [.Name x pos'] e pos) (sSetO i f) := PS_mono (ps_set hN hi hx he hs hf) fun D σ H h => rdSetO h
theorem vs_lcO (i : Nat) {y : Str} {py spos : Pos} {vs : List Nat} (hc : X.calm = true) (hN : X.N.Nodup) (hi : VI X P tg iter g) (ok : BlkOk X.N X.env.scope scope own)
    (hg : ∀ (s : Shared) (H : Hp) (C : Addr) (cl : List (Str × Addr)) (fp : List Addr), VG (X.blk s H scope (compEnvC scope cl C X.env) fp) P.nx tg m js) (ht : ∀ (s : Shared) (H : Hp) (C : Addr) (cl : List (Str × Addr)) (fp : List Addr), VTs (X.blk s H scope (compEnvC scope cl C X.env) fp) P.nx ifs t)
    (he : ∀ (s : Shared) (H : Hp) (C : Addr) (cl : List (Str × Addr)) (fp : List Addr), VE (X.blk s H scope (compEnvC scope cl C X.env) fp) P.nx elt fe) (hsw : swapsWith (.ListComp elt [⟨tg, iter, ifs, 0⟩] scope pos) (some (.Name y py)) spos.line X.env = pure true := by exact sw_true rfl rfl rfl (by decide +kernel)) (hvs : own.map (·.2) = vs := by rfl) (hjs : ∀ i ∈ js, i ∈ vs := by decide) (hy : X.N[i]? = some y := by rfl) (hyl : X.env.scope.names.lookup y = some .local := by rfl)
    (hs : ∀ x, foldedSetIterable iter X.env x = pure x := by intro _; rfl) :
    VS X P (.Assign [.Name y py] (.ListComp elt [⟨tg, iter, ifs, 0⟩] scope pos) spos) (sSetO i (mLc g m t fe vs)) := PS_mono (ps_setLc (g := tG X P.nx m js) (tt := tTV X P.nx t) (te := tV X P.nx fe) hc hN hy hyl hsw hi ok hg ht he hs) fun D σ H h => by
  subst hvs
  have h2 := rdSetO h
  exact rdLc hjs h2
theorem vs_lcL (i : Nat) {y : Str} {py spos : Pos} {vs : List Nat} (hc : X.calm = true) (hN : X.N.Nodup) (hi : VI X P tg iter g) (ok : BlkOk X.N X.env.scope scope own)
    (hg : ∀ (s : Shared) (H : Hp) (C : Addr) (cl : List (Str × Addr)) (fp : List Addr), VG (X.blk s H scope (compEnvC scope cl C X.env) fp) P.nx tg m js) (ht : ∀ (s : Shared) (H : Hp) (C : Addr) (cl : List (Str × Addr)) (fp : List Addr), VTs (X.blk s H scope (compEnvC scope cl C X.env) fp) P.nx ifs t)
    (he : ∀ (s : Shared) (H : Hp) (C : Addr) (cl : List (Str × Addr)) (fp : List Addr), VE (X.blk s H scope (compEnvC scope cl C X.env) fp) P.nx elt fe) (hsw : swapsWith (.ListComp elt [⟨tg, iter, ifs, 0⟩] scope pos) (some (.Name y py)) spos.line X.env = pure true := by exact sw_true rfl rfl rfl (by decide +kernel)) (hvs : own.map (·.2) = vs := by rfl) (hjs : ∀ i ∈ js, i ∈ vs := by decide) (hy : X.N[i]? = some y := by rfl) (hyl : X.env.scope.names.lookup y = some .local := by rfl)
    (hs : ∀ x, foldedSetIterable iter X.env x = pure x := by intro _; rfl) :
    VS X P (.Assign [.Name y py] (.ListComp elt [⟨tg, iter, ifs, 0⟩] scope pos) spos) (sSetL i (mLc g m t fe vs)) := PS_mono (ps_setLc (g := tG X P.nx m js) (tt := tTV X P.nx t) (te := tV X P.nx fe) hc hN hy hyl hsw hi ok hg ht he hs) fun D σ H h => by
  subst hvs
  have h2 := rdSetL h
  exact rdLc hjs h2
end
end PV
end
section
set_option Elab.async false
set_option linter.all false
set_option maxRecDepth 100000
set_option maxHeartbeats 4000000
namespace PV
open PySem PySem.Spec PyProof.Rows L2

/-! ### a name's own list is changed -/
theorem Rep.own {K : PySem.W.Frag} {P : Pm} {ρ : Evn} {F H : Hp} {σ : Sg} {i : Nat} {ds : List PyData} (r : Rep K P ρ F σ H) (q : ρ[i]? = some (some (.own ds))) : ∃ a xs, σ[i]? = some (some (.ref a)) ∧ P.B a = none ∧ F a = none ∧ H a = some (.lst xs) ∧ xs.length ≤ sizeLine ∧ VdAll K F xs ds := by
  obtain ⟨v, h1, a, xs, e, h⟩ := r.slot i _ q
  subst e
  exact ⟨a, xs, h1, h⟩
theorem Rep.mutate {K : PySem.W.Frag} {P : Pm} {ρ : Evn} {F H : Hp} {σ : Sg} {i : Nat} {ds ds' : List PyData} {a : Addr} {xs : List V} (r : Rep K P ρ F σ H) (q : ρ[i]? = some (some (.own ds))) (hσ : σ[i]? = some (some (.ref a))) (hb : P.B a = none) (hf : F a = none)
    (hz : xs.length ≤ sizeLine) (hv : VdAll K F xs ds') : Rep K P (ρ.set i (some (.own ds'))) F σ (upd H a (.lst xs)) := by
  have sm : ∀ {G : Hp}, G a = none → Same G H → Same G (upd H a (.lst xs)) := fun {G} n s b u e => by
    rw [upd_ne (ne_of_none e n)]; exact s b u e
  have hi : i < ρ.length := (List.getElem?_eq_some_iff.mp q).1
  have nj : ∀ {j : Nat} {c : Cel}, (ρ.set i (some (.own ds')))[j]? = some (some c) → (i = j ∧ c = .own ds') ∨ (i ≠ j ∧ ρ[j]? = some (some c)) := fun {j c} q => by
    by_cases hj : i = j
    · subst hj
      rw [List.getElem?_set_self hi] at q
      cases q
      exact .inl ⟨rfl, rfl⟩
    · rw [List.getElem?_set_ne hj] at q
      exact .inr ⟨hj, q⟩
  refine ⟨by rw [List.length_set]; exact r.len, ⟨sm hb r.ext.hh, r.ext.ff, sm hf r.ext.fh, r.ext.nw⟩, fun j c p => ?_, fun j k b es es' hne q1 q2 q3 => ?_⟩
  · rcases nj p with ⟨e, ec⟩ | ⟨n, p⟩
    · subst e; subst ec
      exact ⟨_, hσ, a, xs, rfl, hb, hf, upd_same, hz, hv⟩
    · obtain ⟨u, h1, h2⟩ := r.slot j c p
      refine ⟨u, h1, ?_⟩
      cases c with
      | val d => exact h2
      | exn c => exact h2
      | own es =>
        obtain ⟨a', xs', ev, b1, b2, b3, b4, b5⟩ := h2
        subst ev
        refine ⟨a', xs', rfl, b1, b2, ?_, b4, b5⟩
        rw [upd_ne]
        · exact b3
        · intro e
          subst e
          exact r.sep i j _ ds es n q p hσ h1
  · rcases nj q1 with ⟨e, ec⟩ | ⟨n1, p1⟩
    · subst e
      rcases nj q2 with ⟨e2, _⟩ | ⟨n2, p2⟩
      · exact absurd e2 hne
      · exact r.sep i k b ds es' hne q p2 q3
    · rcases nj q2 with ⟨e2, _⟩ | ⟨n2, p2⟩
      · subst e2
        exact r.sep j i b es ds hne p1 q q3
      · exact r.sep j k b es es' hne p1 p2 q3
/-- the own list at i -/
def ownAt (i : Nat) (ρ : Evn) : Option (List PyData) := match ρ[i]? with
  | some (some (.own ds)) => some ds
  | _ => none
theorem ownAt_eq {i : Nat} {ρ : Evn} {ds : List PyData} (h : ownAt i ρ = some ds) : ρ[i]? = some (some (.own ds)) := by
  unfold ownAt at h
  split at h
  · cases h; assumption
  · cases h
/-- x.append(e) -/
def sApp (i : Nat) (f : Evn → RE PyData) (ρ : Evn) : RS := match ownAt i ρ with
  | some ds => ((f ρ).at ρ).bind fun d => if ds.length < sizeLine then .ok (.nx, ρ.set i (some (.own (ds ++ [d])))) else .bad
  | none => .bad
section
variable {X : Cx} {P : Pm} {pos apos spos tpos : Pos} {e k : Expr} {fe fk : Evn → RE PyData} {x : Str}
theorem rdOwn {i : Nat} {ρ : Evn} {F H : Hp} {σ : Sg} {D : Ends} {k : List PyData → RS} (hR : Rep X.K P ρ F σ H) (h : OutS X P D F (match ownAt i ρ with | some ds => k ds | none => .bad)) :
    ∃ a xs ds, ρ[i]? = some (some (.own ds)) ∧ σ[i]? = some (some (.ref a)) ∧ P.B a = none ∧ F a = none ∧ H a = some (.lst xs) ∧ xs.length ≤ sizeLine ∧ VdAll X.K F xs ds ∧ OutS X P D F (k ds) := by
  cases q : ownAt i ρ with
  | none => rw [q] at h; exact h.elim
  | some ds =>
    rw [q] at h
    obtain ⟨a, xs, h1, h2, h3, h4, h5, h6⟩ := hR.own (ownAt_eq q)
    exact ⟨a, xs, ds, ownAt_eq q, h1, h2, h3, h4, h5, h6, h⟩
theorem Rep.own_at {i : Nat} {ρ : Evn} {F H : Hp} {σ : Sg} {ds : List PyData} {a : Addr} (r : Rep X.K P ρ F σ H) (q : ρ[i]? = some (some (.own ds))) (hσ : σ[i]? = some (some (.ref a))) : ∃ xs, F a = none ∧ H a = some (.lst xs) ∧ xs.length ≤ sizeLine ∧ VdAll X.K F xs ds := by
  obtain ⟨a', xs, g1, g2, g3, g4, g5, g6⟩ := r.own q
  rw [hσ] at g1
  cases g1
  exact ⟨xs, g3, g4, g5, g6⟩
theorem vs_append (i : Nat) {p : Pos} (he : VE X P e fe) (hN : X.N[i]? = some x := by rfl) (hv : Vis X.env.scope x := by first | exact Or.inl rfl | exact Or.inr (Or.inl rfl) | exact Or.inr (Or.inr rfl)) (hd : (x == ("__debug__" : Str)) = false := by decide) (hcd : (x == ("__classdict__" : Str)) = false := by decide)
    (hbase : attributeBase (.Name x p) "append" X.env (eval (.Name x p) X.env) = eval (.Name x p) X.env := by rfl)
    (hfew : ((backTo pos (starEach [e] X.env)).all (fun x => !x.1) && (backToKw pos (keywordEach [] X.env)).all (fun x => x.1.isSome)
      && decide ([e].length + ([] : List Keyword).length + (if ([] : List Keyword).isEmpty then 0 else 1) < 30)) = true := by rfl)
    (hline : (apos.endLine == pos.line) = true := by rfl) (hs : starEach [e] X.env = (false, eval e X.env) :: starEach [] X.env := by rfl) (hplain : (backTo pos (starEach [] X.env)).any (·.1) = false := by rfl) (hsw : swapsWith (.Call (.Attribute (.Name x p) "append" apos) [e] [] pos) none spos.line X.env = pure false := by rfl) :
    VS X P (.Expr (.Call (.Attribute (.Name x p) "append" apos) [e] [] pos) spos) (sApp i fe) :=
  PS_mono (ps_expr (pe_bm PySem.F.plainAttrs_list PySem.F.slot_list_append PySem.F.type_list_append mt_append (pe_var (i := i) hN hv hd hcd) (pa_cons he pa_nil hs) hbase hfew hline hs hplain) hsw) fun D σ H h => by
    obtain ⟨ρ, F, hR, h⟩ := h
    obtain ⟨a, xs, ds, q, h1, h2, h3, h4, h5, h6, h⟩ := rdOwn hR h
    refine ⟨_, h1, .inl ⟨rfl, _, SqL.of h4⟩, ?_⟩
    refine OutS.first hR h fun d v F1 H1 e1 hv R1 k => ?_
    obtain ⟨xs', g3, g4, g5, g6⟩ := R1.own_at q h1
    have hl := g6.length
    by_cases hz : ds.length < sizeLine
    · rw [if_pos hz] at k
      exact ⟨_, _, _, rfl, rfl, g4, by omega, k σ _ F1 (Same.refl _) (R1.mutate q h1 h2 g3 (by rw [List.length_append]; show _ + 1 ≤ _; omega) (g6.append (.cons hv .nil)))⟩
    · rw [if_neg hz] at k
      exact k.elim
/-- x[k] = e -/
def setD (ds : List PyData) (k d : PyData) : Option (List PyData) := match k with
  | .int j => (ixN ds.length j).map fun n => ds.set n d
  | _ => none
def sSetIx (i : Nat) (fk fe : Evn → RE PyData) (ρ : Evn) : RS := match ownAt i ρ with
  | some ds => ((fe ρ).at ρ).bind fun d => ((fk ρ).at ρ).bind fun k => (oS (setD ds k d)).bind fun es => .ok (.nx, ρ.set i (some (.own es)))
  | none => .bad
theorem setD_of {K : PySem.W.Frag} {F : Hp} {xs : List V} {ds es : List PyData} {kv v : V} {k d : PyData} (hx : VdAll K F xs ds) (hk : Vd K F kv k) (hv : Vd K F v d) (e : setD ds k d = some es) : ∃ j n, kv = .int j ∧ ixN xs.length j = some n ∧ VdAll K F (xs.set n v) es := by
  cases hk with
  | int j =>
    cases q : ixN ds.length j with
    | none => simp [setD, q] at e
    | some n =>
      simp only [setD, q, Option.map_some, Option.some.injEq] at e
      subst e
      exact ⟨j, n, rfl, by rw [hx.length]; exact q, hx.set hv n⟩
  | _ => cases e
theorem vs_setIx (i : Nat) {p : Pos} (hk : VE X P k fk) (he : VE X P e fe) (hN : X.N[i]? = some x := by rfl) (hv : Vis X.env.scope x := by first | exact Or.inl rfl | exact Or.inr (Or.inl rfl) | exact Or.inr (Or.inr rfl)) (hd : (x == ("__debug__" : Str)) = false := by decide) (hcd : (x == ("__classdict__" : Str)) = false := by decide)
    (ha : ∀ v, assign (.Subscript (.Name x p) k tpos) X.env v = (do
      let ov ← holding [v] (eval (.Name x p) X.env)
      let iv ← holding [v, ov] (eval k X.env)
      standAt tpos
      holding [v, ov, iv] (setItem ov iv v)
      release [v, ov, iv] []) := by intro _; rfl)
    (hs : swapsWithSole [.Subscript (.Name x p) k tpos] e spos.line X.env = pure false := by rfl) (hw : swappedStores [.Subscript (.Name x p) k tpos] e X.env = pure none := by rfl)
    (h1 : (assignEach [.Subscript (.Name x p) k tpos] X.env).map (·.2) = [assign (.Subscript (.Name x p) k tpos) X.env] := by rfl) :
    VS X P (.Assign [.Subscript (.Name x p) k tpos] e spos) (sSetIx i fk fe) :=
  PS_mono (ps_asg he (pg_sub (pe_var (i := i) hN hv hd hcd) hk set_list ha) hs hw h1) fun D σ H h => by
    obtain ⟨ρ, F, hR, h⟩ := h
    obtain ⟨a, xs, ds, q, h1, h2, h3, h4, h5, h6, h⟩ := rdOwn hR h
    refine OutS.first hR h fun d v F1 H1 e1 hv R1 h => ?_
    refine ⟨_, h1, ?_⟩
    refine OutS.first R1 h fun kd kv F2 H2 e2 hkv R2 h => ?_
    obtain ⟨xs', g3, g4, g5, g6⟩ := R2.own_at q h1
    cases q2 : setD ds kd d with
    | none => rw [q2] at h; exact h.elim
    | some es =>
      rw [q2] at h
      obtain ⟨j, n, rfl, hn, hes⟩ := setD_of g6 hkv (Vd.mono e2.ff d v hv) q2
      exact ⟨_, _, j, n, rfl, rfl, g4, hn, h σ _ F2 (Same.refl _) (R2.mutate q h1 h2 g3 (by rw [List.length_set]; exact g5) hes)⟩
/-- x[k] += e, ints -/
theorem get_list : PGet X (fun o i H Q => ∃ p xs k v, o = .ref p ∧ i = .int k ∧ SqL X.K H p xs ∧ atI xs k = some v ∧ Q v H) := by
  intro pins s σ H o i ov iv Q I ro ri h
  obtain ⟨p, xs, k, z, rfl, rfl, hq, he, q⟩ := h
  cases ro
  obtain ⟨t, rfl⟩ := ri
  obtain ⟨its, r, pl, hz⟩ := I.list hq
  obtain ⟨j, h1, h2, h3, h4, h5⟩ := atI_get he
  obtain ⟨w, ew, rw'⟩ := r.get h2
  have hl := r.length
  have hn := line63
  have fin : EP X pins σ Q w s := ⟨z, H, I, rw', q⟩
  by_cases h0 : 0 ≤ k
  · have hj : k.toNat = j := by
      rw [seqIndex_of h0 h5] at h1
      exact Option.some.inj h1
    exact wpAny_getItem_list pl.isList h0 (by omega) (by rw [hj]; simpa using ew) fin
  · have hj : (k + (its.toArray.size : Int)).toNat = j := by
      rw [seqIndex_neg (by omega) h4] at h1
      rw [List.size_toArray, ← hl]
      exact Option.some.inj h1
    exact wpAny_getItem_list_neg pl.isList (by omega) (by rw [List.size_toArray] <;> omega) (by omega) (by rw [hj]; simpa using ew) fin
def iOp (f : Int → Int → Int) : PyData → PyData → Option PyData
  | .int i, .int j => some (.int (f i j))
  | _, _ => none
def sAugIx (i : Nat) (fk : Evn → RE PyData) (f : Int → Int → Int) (fe : Evn → RE PyData) (ρ : Evn) : RS := match ownAt i ρ with
  | some ds => ((fk ρ).at ρ).bind fun k => (oS (pIdx (.list ds) k)).bind fun old => ((fe ρ).at ρ).bind fun d => (oS ((iOp f old d).bind (setD ds k))).bind fun es => .ok (.nx, ρ.set i (some (.own es)))
  | none => .bad
theorem vs_augIx (i : Nat) {p : Pos} {op : Operator} {f : Int → Int → Int} (ho : PIp X op (ipI f)) (hk : VE X P k fk) (he : VE X P e fe) (hN : X.N[i]? = some x := by rfl) (hv : Vis X.env.scope x := by first | exact Or.inl rfl | exact Or.inr (Or.inl rfl) | exact Or.inr (Or.inr rfl)) (hd : (x == ("__debug__" : Str)) = false := by decide) (hcd : (x == ("__classdict__" : Str)) = false := by decide)
    (ha : ∀ ov iv new, augStore k ov iv new = (do holding [new, ov, iv] (setItem ov iv new); release [new, ov, iv] []; pure .next) := by intros; rfl) :
    VS X P (.AugAssign (.Subscript (.Name x p) k tpos) op e pos) (sAugIx i fk f fe) :=
  PS_mono (ps_augS (pe_var (i := i) hN hv hd hcd) hk get_list he ho set_list ha) fun D σ H h => by
    obtain ⟨ρ, F, hR, h⟩ := h
    obtain ⟨a, xs, ds, q, h1, h2, h3, h4, h5, h6, h⟩ := rdOwn hR h
    refine ⟨_, h1, ?_⟩
    refine OutS.first hR h fun kd kv F1 H1 e1 hkv R1 h => ?_
    obtain ⟨xs1, g3, g4, g5, g6⟩ := R1.own_at q h1
    cases q1 : pIdx (.list ds) kd with
    | none => rw [q1] at h; exact h.elim
    | some old =>
      rw [q1] at h
      cases hkv with
      | int j =>
        obtain ⟨ov, ho1, ho2⟩ := g6.at (i := j) q1
        refine ⟨a, xs1, j, ov, rfl, rfl, SqL.of g4, ho1, ?_⟩
        refine OutS.first (k := fun d => (oS ((iOp f old d).bind (setD ds (.int j)))).bind fun es => .ok (.nx, ρ.set i (some (.own es)))) R1 h fun d v F2 H2 e2 hv R2 h9 => ?_
        obtain ⟨xs2, k3, k4, k5, k6⟩ := R2.own_at q h1
        cases q2 : iOp f old d with
        | none => rw [q2] at h9; exact h9.elim
        | some z =>
          rw [q2] at h9
          cases q3 : setD ds (.int j) z with
          | none => simp only [Option.bind_some, q3] at h9; exact h9.elim
          | some es =>
            simp only [Option.bind_some, q3] at h9
            have hov := Vd.mono e2.ff old ov ho2
            cases hov with
            | int a1 =>
              cases hv with
              | int b1 =>
                cases q2
                obtain ⟨j', n, e', hn, hes⟩ := setD_of (v := .int (f a1 b1)) k6 (.int j) (.int _) q3
                cases e'
                exact ⟨a1, b1, rfl, rfl, _, _, j, n, rfl, rfl, k4, hn, h9 σ _ F2 (Same.refl _) (R2.mutate q h1 h2 k3 (by rw [List.length_set]; exact k5) hes)⟩
              | _ => cases q2
            | _ => cases q2
      | _ => cases q1
/-- x op= e, x no list -/
def sAug (i : Nat) (g : PyData → PyData → Option PyData) (f : Evn → RE PyData) (ρ : Evn) : RS := match ρ[i]? with
  | some (some (.val d)) => ((f ρ).at ρ).bind fun e => (oS (g d e)).bind fun r => .ok (.nx, ρ.set i (some (.val r)))
  | _ => .bad
theorem vs_aug (i : Nat) {p : Pos} {op : Operator} {g : PyData → PyData → Option PyData} (ho : OpV X (inplaceOp op) g) (hN : X.N.Nodup) (he : VE X P e fe) (hi : X.N[i]? = some x := by rfl) (hx : Loc X.env.scope x := by first | exact Or.inl rfl | exact Or.inr rfl)
    (hf : X.fn x = true ∨ X.env.scope.names.lookup x = some .local := by first | exact .inl rfl | exact .inr rfl) : VS X P (.AugAssign (.Name x p) op e pos) (sAug i g fe) :=
  PS_mono (ps_aug (ti := rV X g) hN hi hx he ho.r hf) fun D σ H h => by
    obtain ⟨ρ, F, hR, h⟩ := h
    unfold sAug at h
    split at h
    · rename_i d q
      obtain ⟨v, h1, h2⟩ := hR.slot i _ q
      refine ⟨v, h1, ?_⟩
      refine OutS.first hR h fun e u F1 H1 e1 hu R1 h => ?_
      cases q2 : g d e with
      | none => rw [q2] at h; exact h.elim
      | some r =>
        rw [q2] at h
        exact ⟨F1, d, e, r, R1.fh, Vd.mono e1.ff d v h2, hu, q2, fun v' H' F' ex hv => h _ H' F' ex.ff ((R1.step ex).setVal hv)⟩
    · exact h.elim
def pIAdd : PyData → PyData → Option PyData
  | .int i, .int j => some (.int (i + j))
  | .str x, .str y => if x.length + y.length ≤ sizeLine then some (.str (x ++ y)) else none
  | _, _ => none
theorem opv_iadd : OpV X (inplaceOp .Add) pIAdd := by
  intro pins s σ H x y v u Q I rx ry F d e r sf hx hy hg hq
  cases hx with
  | int i =>
    cases hy with
    | int j =>
      cases hg
      exact iop_add pins s σ H _ _ v u Q I rx ry ⟨i, j, rfl, rfl, hq _ _ F (Ext.refl sf) (.int _)⟩
    | _ => cases hg
  | str x hx1 =>
    cases hy with
    | str y hy1 =>
      obtain ⟨hp, rfl⟩ := some_of_if hg
      refine iop_add_str pins s σ H _ _ v u Q I rx ry ⟨x, y, rfl, rfl, hp, hq _ _ F (Ext.refl sf) (.str _ ?_)⟩
      show ((x.cps ++ y.cps).all _) = true
      have h1 : x.cps.all (fun c => decide (c < 0x110000)) = true := hx1
      have h2 : y.cps.all (fun c => decide (c < 0x110000)) = true := hy1
      rw [Array.all_append, h1, h2]
      rfl
    | _ => cases hg
  | _ => cases hg
theorem opv_isub : OpV X (inplaceOp .Sub) pSub := opI2 (rI0_of iop_sub) (fun _ _ _ => .int _) fun d e r h => by
  cases d <;> cases e <;> first | exact ⟨_, _, rfl, rfl, trivial, (Option.some.inj h).symm⟩ | cases h
/-! pop -/
def sPop (i : Nat) (ρ : Evn) : RS := match ownAt i ρ with
  | some ds => (oS ds.getLast?).bind fun _ => .ok (.nx, ρ.set i (some (.own ds.dropLast)))
  | none => .bad
def sPopTo (i j : Nat) (ρ : Evn) : RS := match ownAt i ρ with
  | some ds => (oS ds.getLast?).bind fun d => .ok (.nx, (ρ.set i (some (.own ds.dropLast))).set j (some (.val d)))
  | none => .bad
theorem VdAll.dropLast {K : PySem.W.Frag} {F : Hp} {vs : List V} {ds : List PyData} (h : VdAll K F vs ds) : VdAll K F vs.dropLast ds.dropLast := by
  rw [List.dropLast_eq_take, List.dropLast_eq_take, h.length]
  exact h.take _
theorem rdPop {i : Nat} {ρ : Evn} {F H : Hp} {σ : Sg} {ds : List PyData} {a : Addr} {xs : List V} {d : PyData} (h6 : VdAll X.K F xs ds) (hl : ds.getLast? = some d) : ∃ y, xs[xs.length - 1]? = some y ∧ Vd X.K F y d := by
  rw [List.getLast?_eq_getElem?] at hl
  obtain ⟨y, h1, h2⟩ := h6.get hl
  rw [← h6.length] at h1
  exact ⟨y, h1, h2⟩
theorem vs_pop (i : Nat) {p : Pos} (hN : X.N[i]? = some x := by rfl) (hv : Vis X.env.scope x := by first | exact Or.inl rfl | exact Or.inr (Or.inl rfl) | exact Or.inr (Or.inr rfl)) (hd : (x == ("__debug__" : Str)) = false := by decide) (hcd : (x == ("__classdict__" : Str)) = false := by decide)
    (hbase : attributeBase (.Name x p) "pop" X.env (eval (.Name x p) X.env) = eval (.Name x p) X.env := by rfl) (hline : (apos.endLine == pos.line) = true := by rfl) (hsw : swapsWith (.Call (.Attribute (.Name x p) "pop" apos) [] [] pos) none spos.line X.env = pure false := by rfl) :
    VS X P (.Expr (.Call (.Attribute (.Name x p) "pop" apos) [] [] pos) spos) (sPop i) :=
  PS_mono (ps_expr (pe_bm0 PySem.F.plainAttrs_list PySem.F.slot_list_pop PySem.F.type_list_pop mt_pop (pe_var (i := i) hN hv hd hcd) hbase hline) hsw) fun D σ H h => by
    obtain ⟨ρ, F, hR, h⟩ := h
    obtain ⟨a, xs, ds, q, h1, h2, h3, h4, h5, h6, h⟩ := rdOwn hR h
    refine ⟨_, h1, .inl ⟨rfl, _, SqL.of h4⟩, ?_⟩
    cases q2 : ds.getLast? with
    | none => rw [q2] at h; exact h.elim
    | some d =>
      rw [q2] at h
      obtain ⟨y, hy, _⟩ := rdPop (i := i) (ρ := ρ) (H := H) (σ := σ) (a := a) h6 q2
      exact ⟨_, _, y, rfl, rfl, h4, hy, h σ _ F (Same.refl _) (hR.mutate q h1 h2 h3 (by rw [List.length_dropLast]; omega) h6.dropLast)⟩
theorem vs_popTo (i j : Nat) {y : Str} {p py : Pos} (nd : X.N.Nodup) (hN : X.N[i]? = some x := by rfl) (hj : X.N[j]? = some y := by rfl) (hij : i ≠ j := by decide) (hv : Vis X.env.scope x := by first | exact Or.inl rfl | exact Or.inr (Or.inl rfl) | exact Or.inr (Or.inr rfl)) (hd : (x == ("__debug__" : Str)) = false := by decide) (hcd : (x == ("__classdict__" : Str)) = false := by decide)
    (hbase : attributeBase (.Name x p) "pop" X.env (eval (.Name x p) X.env) = eval (.Name x p) X.env := by rfl) (hline : (apos.endLine == pos.line) = true := by rfl) (hy : Loc X.env.scope y := by first | exact Or.inl rfl | exact Or.inr rfl) (hsw : swapsWith (.Call (.Attribute (.Name x p) "pop" apos) [] [] pos) (some (.Name y py)) spos.line X.env = pure false := by rfl) (hf : X.fn y = true ∨ X.env.scope.names.lookup y = some .local := by first | exact .inl rfl | exact .inr rfl) :
    VS X P (.Assign [.Name y py] (.Call (.Attribute (.Name x p) "pop" apos) [] [] pos) spos) (sPopTo i j) :=
  PS_mono (ps_set nd hj hy (pe_bm0 PySem.F.plainAttrs_list PySem.F.slot_list_pop PySem.F.type_list_pop mt_pop (pe_var (i := i) hN hv hd hcd) hbase hline) hsw hf) fun D σ H h => by
    obtain ⟨ρ, F, hR, h⟩ := h
    obtain ⟨a, xs, ds, q, h1, h2, h3, h4, h5, h6, h⟩ := rdOwn hR h
    refine ⟨_, h1, .inl ⟨rfl, _, SqL.of h4⟩, ?_⟩
    cases q2 : ds.getLast? with
    | none => rw [q2] at h; exact h.elim
    | some d =>
      rw [q2] at h
      obtain ⟨y, hy, hyv⟩ := rdPop (i := i) (ρ := ρ) (H := H) (σ := σ) (a := a) h6 q2
      exact ⟨_, _, y, rfl, rfl, h4, hy, h _ _ F (Same.refl _) ((hR.mutate q h1 h2 h3 (by rw [List.length_dropLast]; omega) h6.dropLast).setVal hyv)⟩
end

/-! ### fresh lists -/
section
variable {X : Cx} {P : Pm} {pos p p2 p3 : Pos} {e k a b : Expr} {es : List Expr} {fe fk fa fb : Evn → RE PyData} {g : Evn → RE (List PyData)} {x : Str}
theorem OutF.first {σ : Sg} {F H : Hp} {ρ : Evn} {f : Evn → RE PyData} {k : PyData → RE (List PyData)} {Q Q' : VK} (hR : Rep X.K P ρ F σ H) (h : OutF X P σ Q F H ((f ρ).bind k))
    (hq : ∀ d v F1 H1, Ext F H F1 H1 → Vd X.K F1 v d → Rep X.K P ρ F1 σ H1 → OutF X P σ Q F1 H1 (k d) → Q' v H1) : tV X P f σ H Q' := by
  refine ⟨ρ, F, hR, ?_⟩
  refine R.post_mono (R.post_bind h) (fun d q v H' F' e hv => hq d v F' H' e hv (hR.step e) ?_) (fun c _ q => q)
  exact R.post_mono q (fun ds q p xs H2 F2 e2 n f h1 hz hv => q p xs H2 F2 (e.trans e2) (e.hh.free n) f h1 hz hv) (fun c _ q C H2 F2 hm e2 => q C H2 F2 hm (e.trans e2))
theorem OutF.firstA {σ : Sg} {F H : Hp} {ρ : Evn} {f : Evn → RE (List PyData)} {k : List PyData → RE (List PyData)} {Q : VK} {Q' : List V → Hp → Prop} (hR : Rep X.K P ρ F σ H) (h : OutF X P σ Q F H ((f ρ).bind k))
    (hq : ∀ d v F1 H1, Ext F H F1 H1 → VdAll X.K F1 v d → Rep X.K P ρ F1 σ H1 → OutF X P σ Q F1 H1 (k d) → Q' v H1) : tAV X P f σ H Q' := by
  refine ⟨ρ, F, hR, ?_⟩
  refine R.post_mono (R.post_bind h) (fun d q v H' F' e hv => hq d v F' H' e hv (hR.step e) ?_) (fun c _ q => q)
  exact R.post_mono q (fun ds q p xs H2 F2 e2 n f h1 hz hv => q p xs H2 F2 (e.trans e2) (e.hh.free n) f h1 hz hv) (fun c _ q C H2 F2 hm e2 => q C H2 F2 hm (e.trans e2))
/-- a new list, as a fresh result -/
theorem OutF.new {σ : Sg} {F H : Hp} {Q : VK} {xs : List V} {ds : List PyData} (sf : Same F H) (h : OutF X P σ Q F H (.ok ds)) (hz : xs.length ≤ sizeLine) (hv : VdAll X.K F xs ds) : ∀ p, H p = none → Q (.ref p) (upd H p (.lst xs)) :=
  fun p n => h p xs _ F (Ext.beside sf n) n (sf.free n) upd_same hz hv
def mDsp (g : Evn → RE (List PyData)) (ρ : Evn) : RE (List PyData) := (g ρ).bind fun ds => if ds.length ≤ sizeLine then .ok ds else .bad
theorem vf_lst (h : VA X P es g) : VF X P (.List es pos) (mDsp g) := PE_mono (pe_lst h) fun σ H Q h => by
  obtain ⟨ρ, F, hR, h⟩ := h
  refine OutF.firstA hR h fun ds vs F1 H1 e1 hv R1 h1 => ?_
  have hl := hv.length
  by_cases hz : ds.length ≤ sizeLine
  · rw [if_pos hz] at h1
    exact ⟨by omega, OutF.new R1.fh h1 (by omega) hv⟩
  · rw [if_neg hz] at h1; exact h1.elim
/-- [a, ..] * n -/
def repOk (m : Nat) (k : Int) : Prop := -(2 ^ 63) ≤ k ∧ k < 2 ^ 63 ∧ m * k.toNat ≤ sizeLine
instance (m : Nat) (k : Int) : Decidable (repOk m k) := by unfold repOk; exact inferInstance
def pRep (ds : List PyData) : PyData → RE (List PyData)
  | .int k => if repOk ds.length k then .ok (List.replicate k.toNat ds).flatten else .bad
  | _ => .bad
def mRep (g : Evn → RE (List PyData)) (f : Evn → RE PyData) (ρ : Evn) : RE (List PyData) := (mDsp g ρ).bind fun ds => (f ρ).bind (pRep ds)
theorem vf_rep (h : VA X P es g) (hk : VE X P k fk) : VF X P (.BinOp (.List es p2) .Mult k pos) (mRep g fk) := PE_mono (pe_op op_rep (pe_lst h) hk) fun σ H Q h => by
  obtain ⟨ρ, F, hR, h⟩ := h
  have h' : OutF X P σ Q F H ((g ρ).bind fun ds => (if ds.length ≤ sizeLine then .ok ds else .bad : RE (List PyData)).bind fun ds => (fk ρ).bind (pRep ds)) := by
    have e : mRep g fk ρ = (g ρ).bind fun ds => (if ds.length ≤ sizeLine then .ok ds else .bad : RE (List PyData)).bind fun ds => (fk ρ).bind (pRep ds) := by
      unfold mRep mDsp; rw [bind_assoc]
    rw [← e]; exact h
  refine OutF.firstA hR h' fun ds vs F1 H1 e1 hv R1 h1 => ?_
  have hl := hv.length
  by_cases hz : ds.length ≤ sizeLine
  case neg => rw [if_neg hz] at h1; exact h1.elim
  rw [if_pos hz] at h1
  refine ⟨by omega, fun l hn => ?_⟩
  have f1 := R1.fh.free hn
  have e2 : Ext F1 H1 F1 (upd H1 l (.lst vs)) := Ext.beside R1.fh hn
  have h2 : OutF X P σ Q F1 (upd H1 l (.lst vs)) ((fk ρ).bind (pRep ds)) :=
    R.post_mono h1 (fun ds q p xs H2 F2 e3 n f h1 hz hv => q p xs H2 F2 (e2.trans e3) (e2.hh.free n) f h1 hz hv) (fun c _ q C H2 F2 hm e3 => q C H2 F2 hm (e2.trans e3))
  refine OutF.first (R1.step e2) h2 fun d v F2 H2 e3 hv2 R2 h3 => ?_
  cases hv2 with
  | int i =>
    have h3' : OutF X P σ Q F2 H2 (if repOk ds.length i then .ok (List.replicate i.toNat ds).flatten else .bad) := h3
    by_cases hr : repOk ds.length i
    · rw [if_pos hr] at h3'
      refine ⟨l, i, vs, rfl, rfl, e3.hh l _ upd_same, hr.1, hr.2.1, by rw [hl]; exact hr.2.2, ?_⟩
      refine OutF.new R2.fh h3' ?_ ((VdAll.mono e3.ff _ _ hv).rep _)
      rw [PyProof.Rows.lm_len_rep_flat, hl, Nat.mul_comm]; exact hr.2.2
    · rw [if_neg hr] at h3'; exact h3'.elim
  | _ => exact h3.elim
/-- list(x) -/
def pLst : PyData → RE (List PyData)
  | .list ds => .ok ds
  | .tuple ds => .ok ds
  | _ => .bad
def mBind (f : Evn → RE PyData) (k : PyData → RE (List PyData)) (ρ : Evn) : RE (List PyData) := (f ρ).bind k
theorem vf_list (hg : Gl X "list") (hm : X.mg "list" = none) (ha : VE X P e fe) (he : starEach (e :: []) X.env = (false, eval e X.env) :: starEach [] X.env := by rfl) (hpl : (backTo pos (starEach [] X.env)).any (·.1) = false := by rfl) :
    VF X P (.Call (.Name "list" p) [e] [] pos) (mBind fe pLst) := PE_mono (pe_callTy call_list_of hg hm (by decide +kernel) (pa_cons ha pa_nil he) (he := he) (hpl := hpl)) fun σ H Q h => by
  obtain ⟨ρ, F, hR, h⟩ := h
  refine OutF.first hR h fun d v F1 H1 e1 hv R1 h1 => ?_
  cases hv with
  | lst hs hz ha => exact ⟨_, _, rfl, .inl (R1.fh.seq hs), OutF.new R1.fh h1 hz ha⟩
  | tup hs hz ha => exact ⟨_, _, rfl, .inr (same_sqT R1.fh hs), OutF.new R1.fh h1 hz ha⟩
  | _ => exact h1.elim
end
end PV
end
section
set_option Elab.async false
set_option linter.all false
set_option maxRecDepth 100000
set_option maxHeartbeats 4000000
namespace PV
open PySem PySem.Spec PyProof.Rows L2

/-! ### x[k], x a name that may hold its own list -/
def mIxO (i : Nat) (fk : Evn → RE PyData) (ρ : Evn) : RE PyData := match ρ[i]? with
  | some (some (.own ds)) => (fk ρ).bind fun k => ofO (pIdx (.list ds) k)
  | some (some (.val d)) => (fk ρ).bind fun k => ofO (pIdx d k)
  | _ => .bad
section
variable {X : Cx} {P : Pm} {pos p : Pos} {k : Expr} {fk : Evn → RE PyData} {x : Str}
theorem ve_ixO (i : Nat) (hk : VE X P k fk) (hN : X.N[i]? = some x := by rfl) (hv : Vis X.env.scope x := by first | exact Or.inl rfl | exact Or.inr (Or.inl rfl) | exact Or.inr (Or.inr rfl)) (hs : PlainIx k := by first | exact (fun _ _ => rfl) | (intro _ _; rfl)) (hd : (x == ("__debug__" : Str)) = false := by decide) (hcd : (x == ("__classdict__" : Str)) = false := by decide) :
    VE X P (.Subscript (.Name x p) k pos) (mIxO i fk) := PE_mono (pe_ix (ix_list.or ix_all) (pe_var (i := i) hN hv hd hcd) hk hs) fun σ H Q h => by
  obtain ⟨ρ, F, hR, h⟩ := h
  unfold mIxO at h
  split at h
  · rename_i ds q
    obtain ⟨a, xs, h1, h2, h3, h4, h5, h6⟩ := hR.own q
    refine ⟨_, h1, ?_⟩
    refine Out.first hR h fun kd kv F1 H1 e1 hkv R1 h9 => ?_
    obtain ⟨xs', g3, g4, g5, g6⟩ := R1.own_at q h1
    obtain ⟨r, hr, hq⟩ := h9.ofO
    cases hkv with
    | int j =>
      obtain ⟨v, w1, w2⟩ := g6.at (i := j) hr
      exact .inl ⟨a, xs', j, v, rfl, rfl, SqL.of g4, w1, hq v H1 F1 (Ext.refl R1.fh) w2⟩
    | _ => cases hr
  · rename_i d q
    obtain ⟨v, h1, h2⟩ := hR.slot i _ q
    refine ⟨v, h1, ?_⟩
    refine Out.first hR h fun kd kv F1 H1 e1 hkv R1 h9 => ?_
    obtain ⟨r, hr, hq⟩ := h9.ofO
    exact .inr ⟨F1, d, kd, r, R1.fh, Vd.mono e1.ff d v h2, hkv, hr, hq⟩
  · exact h.elim
end

/-! ### defs by name -/
abbrev FnP (K : PySem.W.Frag) (x : Str) (st : Stmt) (f : Addr) (fd : FuncData) : Prop := FunD K x x (defArgs st) (defBody st) (defScope st) [] [] f fd
/-- what a caller leans on -/
structure Cal (P : Program) (w : World) (K : PySem.W.Frag) (mg : Str → Option Value) (base : Heap) (k : Nat) (x : Str) (ps : List Str) (sem : List PyData → RE PyData) : Prop where
  ex : ∃ f fd, FnV P w K mg base k f fd ps sem ∧ mg x = some (.ref f) ∧ PySem.W.keepIn K (.ref f) = true ∧ Binds K fd ps []
section
variable {X : Cx} {P : Pm} {pos p : Pos} {e : Expr} {es : List Expr} {fa : Evn → RE (List PyData)} {sem : List PyData → RE PyData} {x : Str} {k j : Nat} {ps : List Str}
theorem ve_cal (c : Cal X.prog X.w X.K X.mg X.base k x ps sem) (hr : Room j X.A) (tk : Takes X P.W) (ha : VA X P (e :: es) fa) (hkj : k ≤ j := by first | decide | omega) (hg : Gl X x := by rfl) (hdb : (x == ("__debug__" : Str)) = false := by decide)
    (he : starEach (e :: es) X.env = (false, eval e X.env) :: starEach es X.env := by rfl) (hpl : (backTo pos (starEach es X.env)).any (·.1) = false := by rfl) :
    VE X P (.Call (.Name x p) (e :: es) [] pos) (mSeq sem fa) := by
  obtain ⟨f, fd, F, hm, hk, hb⟩ := c.ex
  exact ve_call F (hr.mono hkj) hg hm hk hb tk ha hdb he hpl
theorem ve_cal0 (c : Cal X.prog X.w X.K X.mg X.base k x ps sem) (hr : Room j X.A) (tk : Takes X P.W) (hkj : k ≤ j := by first | decide | omega) (hg : Gl X x := by rfl) (hdb : (x == ("__debug__" : Str)) = false := by decide) :
    VE X P (.Call (.Name x p) [] [] pos) (fun _ => sem []) := by
  obtain ⟨f, fd, F, hm, hk, hb⟩ := c.ex
  exact ve_call0 F (hr.mono hkj) hg hm hk hb tk hdb
end
section
variable {P : Program} {w : World} {K : PySem.W.Frag} {mg : Str → Option Value} {base : Heap}
theorem FnV.ofP {x : Str} {st : Stmt} {f : Addr} {fd : FuncData} {N ps : List Str} {k : Nat} {body : Evn → RS} (F : FnP K x st f fd) (S : FnScope N ps (defScope st))
    (hbody : ∀ (cdv : Value) (A : Around) (outer : List Env) (s : Shared) (H : Hp) (E : XK) (F0 : Hp), Room k (A.deeper (envOfC x (defScope st) s.heap.objs.size f cdv)) →
      VSs (cxOf (L2.CX P w) P w K mg base N x (defScope st) f cdv A outer s H E) ⟨H, F0, wE E, none⟩ (defBody st) body) :
    FnV P w K mg base (k + 1) f fd ps (fnM ps.length N.length body) := by
  refine ⟨F.ok S (fun vs H Q E h => ?_) (fun cdv A outer s H vs Q E hr h => ?_), fun ds h => fnM_ar h⟩
  · obtain ⟨F0, ds, _, hv, hl, _⟩ := h
    rw [hv.length, hl]
  · obtain ⟨F0, ds, sf, hv, hl, hp⟩ := h
    refine ⟨_, hbody cdv A outer s H E F0 hr, startE N.length ds, F0, rep_start sf hv, ?_⟩
    unfold fnM at hp
    rw [if_pos hl] at hp
    unfold OutS
    cases q : body (startE N.length ds) with
    | ok p =>
      rw [q] at hp
      obtain ⟨fl, ρ'⟩ := p
      cases fl with
      | nx => exact fun σ' H' F' _ r => hp _ _ F' r.ext .non
      | bk => exact hp.elim
      | ct => exact hp.elim
      | rt d => exact fun v σ' H' F' _ r hv' => hp v H' F' r.ext hv'
    | exc c ρ' =>
      rw [q] at hp
      exact fun C σ' H' F' hm _ r => hp C H' F' hm r.ext
    | bad => rw [q] at hp; exact hp.elim
abbrev BindH (x : Str) (st : Stmt) (ps : List Str) : Prop := ∀ (kV doc pm : Value) (an : Option Addr) (cdv ct : Value) (us : List Value), us.length = ps.length → bindArgs (PySem.W.fnOf x x (defArgs st) (defBody st) (defScope st) .none kV doc pm an cdv ct) ⟨us, []⟩ = pure (ps.zip us)
theorem Cal.of {x : Str} {st : Stmt} {f : Addr} {fd : FuncData} {N ps : List Str} {k : Nat} {body : Evn → RS} (F : FnP K x st f fd) (gl : mg x = some (.ref f)) (S : FnScope N ps (defScope st)) (hb : BindH x st ps)
    (hbody : ∀ (cdv : Value) (A : Around) (outer : List Env) (s : Shared) (H : Hp) (E : XK) (F0 : Hp), Room k (A.deeper (envOfC x (defScope st) s.heap.objs.size f cdv)) →
      VSs (cxOf (L2.CX P w) P w K mg base N x (defScope st) f cdv A outer s H E) ⟨H, F0, wE E, none⟩ (defBody st) body) :
    Cal P w K mg base (k + 1) x ps (fnM ps.length N.length body) := ⟨⟨f, fd, FnV.ofP F S hbody, gl, F.kp, FunD.bindsN F hb⟩⟩
theorem Cal.none {x : Str} {st : Stmt} {f : Addr} {fd : FuncData} {ps : List Str} {k : Nat} (F : FnP K x st f fd) (gl : mg x = some (.ref f)) (hb : BindH x st ps) : Cal P w K mg base k x ps (fun _ => .bad) := ⟨⟨f, fd, FnV.bad, gl, F.kp, FunD.bindsN F hb⟩⟩
/-- within a block nothing is let out -/
theorem takesN {X : Cx} {P : Pm} : Takes X P.nx.W := fun _ _ ⟨_, _, _, _, _, _, _, _, _, _, _, _, _, _, _, _, w⟩ => w.elim
/-- the law's call -/
theorem law_end {n : Nat} {sem : List PyData → RE PyData} (hn : n ≤ sizeLine) (h : ∀ ns : List Int, ns.length ≤ n → sem [.list (ns.map .int)] = .ok (.bool true)) :
    ∀ (H : Hp) (a : Addr) (ns : List Int), ns.length ≤ n → SqL K H a (ns.map V.int) → SpV K mg 1 sem [.ref a] H (fun v _ => v = .bl true) fun _ _ _ => False := fun H a ns hl hs => by
  have hv : VdAll K H (ns.map V.int) (ns.map PyData.int) := by
    induction ns with
    | nil => exact .nil
    | cons i r ih =>
      have go : ∀ l : List Int, VdAll K H (l.map V.int) (l.map PyData.int) := fun l => by
        induction l with
        | nil => exact .nil
        | cons a b ih => exact .cons (.int a) ih
      exact go _
  refine ⟨H, _, Same.refl _, .cons (.lst hs (by rw [List.length_map]; omega) hv) .nil, rfl, ?_⟩
  rw [h ns hl]
  intro v H' F' _ hv'
  cases hv'
  rfl
end
end PV
end
section
set_option Elab.async false
set_option linter.all false
set_option maxRecDepth 100000
set_option maxHeartbeats 4000000
namespace PV
open PySem PySem.Spec PySem.Calls PyProof.Rows L2 RT

/-! ### list(reversed(xs)) -/
section
variable {prog : Program} {w : World} {A : Around} {E : Value → Shared → Prop} {s : Shared}
theorem extend_rev {Rz : Result → Shared → Prop} {it l : Addr} {items : Array Value} (hh : A.handled = none) (hit : s.heap.IsRevIter it l ((items.size : Int) - 1)) (hl : s.heap.IsList l items) (hne : l ≠ it) (hn : items.size ≤ sizeLine) (Sd : Addr) (res : Value) (cz : Nat)
    (hS : s.heap.get? Sd = some { cls := .type "list", data := .seq #[] cz }) (hSi : Sd ≠ it) (hSl : Sd ≠ l)
    (hR : ∀ h' tk acc' c', (∀ b o, b ≠ Sd → b ≠ it → s.heap.get? b = some o → h'.get? b = some o) → h'.get? Sd = some { cls := .type "list", dict := none, data := .seq acc' c', slots := #[] } →
      ItemsOf (fun i v => items[items.size - 1 - i]? = some v) acc' items.size → Rz (.ok (.ret res)) { s with heap := h', toks := tk }) :
    wpAny (model prog w) A.in1 (Builtin.List.listExtendWith (.ref Sd) (.ref it) res)
      (fun fin s' => match fin with | .done f => Rz (.ok f) s' | .again c' => c'.quiet = true ∧ codeAny (model prog w) A c' Rz s') (fun e s' => Rz (.error e) s') s := by
  have W := (Walks.listRev (prog := prog) (w := w) (A := A.in1) hh it l hne items).toS
  have hSf : Sd ∉ [it, l] := by simp only [List.mem_cons, List.not_mem_nil, or_false, not_or]; exact ⟨hSi, hSl⟩
  have hT : s.TypeIs (.ref it) "list_reverseiterator" := Heap.IsRevIter.typeIs hit
  have k1 : Builtin.List.listSameRef (.ref Sd) (.ref it) = false := by simp [Builtin.List.listSameRef, hSi]
  unfold Builtin.List.listExtendWith
  refine wpAny_bind (wpAny_typeOf hT ?_)
  rw [if_neg (by rw [k1]; decide)]
  refine wpAny_bind (wpAny_pyIter_revIter hit (wpAny_bind (wpAny_holding ?_)))
  unfold Builtin.List.listLengthHint
  refine wpAny_bind (wpAny_specialOf hT nolen_lri ?_)
  show wpAny _ _ (specialOf (Value.ref it) (Str.ofString "__length_hint__") >>= _) _ _ s
  refine wpAny_bind (wpAny_specialOf hT hint_lri ?_)
  generalize hid : ("list_reverseiterator.__length_hint__" : String) = idz
  wp_delta
  rw [show splitId idz = some ("list_reverseiterator", "__length_hint__") from by subst hid; decide +kernel]
  subst hid
  refine wpAny_bind (wpAny_isInstance (b := true) hT (by rw [isSubtype_type]; kernel_rfl) (wpAny_pure ?_))
  rw [if_neg (by decide)]
  have e0 : ((items.size : Nat) : Int) - 1 - ((0 : Nat) : Int) = (items.size : Int) - 1 := by omega
  refine wpAny_pure ⟨plainId_quiet PySem.F.plain_extend_loop _, codeAny_extend_loopS W hn Sd hSf res items.size 0 _ #[] cz rfl (Nat.zero_le _) ⟨Nat.zero_le _, by rw [e0]; exact hit, hl⟩ hS (ItemsOf.nil _) fun s' acc' c' hm hS' hacc => ?_⟩
  rw [Moved.eq_with hm]
  refine hR s'.heap s'.toks acc' c' (fun b o hb hb2 e => hm.heap b o (fun hmem => ?_) e) hS' hacc
  rcases List.mem_cons.mp hmem with e' | hmem
  · exact hb e'
  · exact hb2 (List.mem_singleton.mp hmem)
theorem call_list_rev {Q : Value → Shared → Prop} {it l : Addr} {items : Array Value} (hh : A.handled = none) (hit : s.heap.IsRevIter it l ((items.size : Int) - 1)) (hl : s.heap.IsList l items) (hne : l ≠ it) (hn : items.size ≤ sizeLine)
    (hQ : ∀ h' tk acc' c', (∀ b o, b ≠ it → s.heap.get? b = some o → h'.get? b = some o) → h'.get? s.heap.objs.size = some { cls := .type "list", dict := none, data := .seq acc' c', slots := #[] } →
      ItemsOf (fun i v => items[items.size - 1 - i]? = some v) acc' items.size → Q (.ref s.heap.objs.size) { s with heap := h', toks := tk }) :
    wpAny (model prog w) A (call (.type "list") [.ref it]) Q E s := by
  refine callType_codes (Q₁ := fun obj sz => obj = .ref s.heap.objs.size ∧ sz = { s with heap := s.heap.push { cls := .type "list", data := .seq #[] } }) PySem.F.called_list (PySem.F.typeCall_list_1 _) PySem.F.entry_list_init
    (code_list_new _ ⟨rfl, rfl⟩) fun obj sz hz => ?_
  obtain ⟨rfl, rfl⟩ := hz
  have hS : (s.heap.push { cls := .type "list", data := .seq #[] }).get? s.heap.objs.size = some { cls := .type "list", data := .seq #[] } := Heap.get?_push_size _ rfl
  obtain ⟨oi, hoi, _⟩ := id hit
  obtain ⟨ol, hol, _⟩ := id hl
  have ni : s.heap.objs.size ≠ it := Nat.ne_of_gt (Heap.lt_size hoi)
  have nl : s.heap.objs.size ≠ l := Nat.ne_of_gt (Heap.lt_size hol)
  refine ⟨⟨_, hS, rfl⟩, PySem.F.args_list_init_2 _ _, ?_⟩
  generalize hSd : s.heap.objs.size = Sd at *
  show wpAny _ _ (do let old ← Builtin.List.listItems (.ref Sd); Builtin.List.listUpdate (.ref Sd) (fun _ => #[]); letGo old.toList.reverse; Builtin.List.listExtendWith (.ref Sd) (.ref it) .none) _ _ _
  refine wpAny_bind ?_
  unfold Builtin.List.listItems
  refine wpAny_bind (wpAny_seqItems hS rfl (wpAny_pure ?_))
  show wpAny _ _ (updateSeq Sd (fun _ => #[]) >>= fun _ => letGo (#[] : Array Value).toList.reverse >>= fun _ => Builtin.List.listExtendWith (.ref Sd) (.ref it) .none) _ _ _
  refine wpAny_bind (wpAny_updateSeq hS rfl ?_)
  have hS2 := Heap.get?_update_self (Obj.mapSeq (fun _ => (#[] : Array Value))) hS rfl
  have oth : ∀ b o, b ≠ Sd → (s.heap.push { cls := .type "list", data := .seq #[] }).get? b = some o → ((s.heap.push { cls := .type "list", data := .seq #[] }).update Sd (Obj.mapSeq (fun _ => (#[] : Array Value)))).get? b = some o :=
    fun b o hb e => (Heap.get?_update_other _ _ (Ne.symm hb)).trans e
  refine wpAny_bind (wpAny_letGo ?_)
  refine extend_rev (A := A.in1) hh (hit.at fun o e => oth _ _ (Ne.symm ni) (Heap.get?_push_of_some _ e)) ?_ hne hn Sd .none _ hS2 ni nl fun h' tk acc' c' hk hS' hacc => ?_
  · obtain ⟨o, ho, r⟩ := hl
    exact ⟨o, oth _ _ (Ne.symm nl) (Heap.get?_push_of_some _ ho), r⟩
  · exact ⟨rfl, hQ h' tk acc' c' (fun b o hb e => hk b o (by rw [← hSd]; exact Nat.ne_of_lt (Heap.lt_size e)) hb (oth b o (by rw [← hSd]; exact Nat.ne_of_lt (Heap.lt_size e)) (Heap.get?_push_of_some _ e))) hS' hacc⟩
end
section
variable {X : Cx} {P : Pm} {pos p pos2 p2 : Pos} {e : Expr} {fe : Evn → RE PyData}
def pRevL : PyData → RE (List PyData)
  | .list ds => .ok ds.reverse
  | _ => .bad
theorem vf_listrev (hg : Gl X "list") (hm : X.mg "list" = none) (hg2 : Gl X "reversed") (hm2 : X.mg "reversed" = none) (he : VE X P e fe) (hc : X.calm = true := by rfl)
    (hs : starEach [e] X.env = (false, eval e X.env) :: starEach [] X.env := by rfl)
    (hs2 : starEach [.Call (.Name "reversed" p2) [e] [] pos2] X.env = (false, eval (.Call (.Name "reversed" p2) [e] [] pos2) X.env) :: starEach [] X.env := by rfl) :
    VF X P (.Call (.Name "list" p) [.Call (.Name "reversed" p2) [e] [] pos2] [] pos) (mBind fe pRevL) := by
  have key : PE X (.Call (.Name "list" p) [.Call (.Name "reversed" p2) [e] [] pos2] [] pos) (fun σ H Q => tV X P fe σ H fun v H1 => ∃ (a : Addr) (xs : List V), v = .ref a ∧ SqL X.K H1 a xs ∧ ∀ q, H1 q = none → Q (.ref q) (upd H1 q (.lst xs.reverse))) := by
    refine ⟨fun pins s σ H Q I h => ?_⟩
    refine Call_ (ld_blt I hg hm (show bootBuiltins "list" = some (.type "list") by decide +kernel) (PyProof.Rows.callWith_type1 (args_cons (Call_ (ld_blt I hg2 hm2 PyProof.Rows.boot_reversed (PyProof.Rows.callWith_type1 (args_cons (thn (PE.run he pins s σ H _ I h) fun u s1 ⟨v, H1, I1, r1, q1⟩ => args_nil ?_) hs) hs rfl))) hs2) hs2 rfl))
    obtain ⟨a, xs, ev, hq, q⟩ := q1
    subst ev
    cases (show u = Value.ref a from r1)
    obtain ⟨its, rv, pl, hz⟩ := I1.list hq
    refine call_reversed_list pl.isList (args_nil ?_)
    have k0 : ∀ b o, s1.heap.get? b = some o → (s1.heap.push (revObj a ((its.toArray.size : Int) - 1))).get? b = some o := fun b o e => Heap.get?_push_of_some _ e
    have hl := pl.isList
    obtain ⟨ol, hol, _⟩ := id hl
    have hne : a ≠ s1.heap.objs.size := Nat.ne_of_lt (Heap.lt_size hol)
    have hn : its.toArray.size ≤ sizeLine := by rw [List.size_toArray, ← rv.length]; exact hz
    refine call_list_rev (s := { s1 with heap := s1.heap.push (revObj a ((its.toArray.size : Int) - 1)) }) (I1.ok.hd hc) ⟨_, Heap.get?_push_size _ rfl, rfl, rfl⟩ (hl.push _) hne hn fun h' tk acc c' hk hS hi => ?_
    have hsz : (s1.heap.push (revObj a ((its.toArray.size : Int) - 1))).objs.size = s1.heap.objs.size + 1 := Heap.size_push _ _
    have hN : H1 (s1.heap.objs.size + 1) = none := I1.hok.fresh (Nat.le_succ _)
    rw [hsz] at hS
    have J := I1.laid (a := s1.heap.objs.size + 1) (o := .lst xs.reverse) (t' := tk) (fun b o e => hk b o (Nat.ne_of_lt (Heap.lt_size e)) (k0 b o e)) (Nat.le_succ _)
      (show ObjOk X.prog X.w _ h' _ (.lst xs.reverse) from ⟨by rw [List.length_reverse]; exact hz, acc.toList, c', vals_rev rv hi, by rw [Array.toArray_toList]; exact hS⟩)
    show EP X pins σ Q (.ref (s1.heap.push (revObj a ((its.toArray.size : Int) - 1))).objs.size) _
    rw [hsz]
    exact ⟨.ref (s1.heap.objs.size + 1), _, J, rfl, q _ hN⟩
  refine PE_mono key fun σ H Q h => ?_
  obtain ⟨ρ, F, hR, h⟩ := h
  refine OutF.first hR h fun d v F1 H1 e1 hv R1 h1 => ?_
  cases hv with
  | lst hs hz ha => exact ⟨_, _, rfl, R1.fh.seq hs, OutF.new R1.fh h1 (by rw [List.length_reverse]; exact hz) ha.reverse⟩
  | _ => exact h1.elim
end
end PV
end
section
set_option Elab.async false
set_option linter.all false
set_option maxRecDepth 100000
set_option maxHeartbeats 4000000
namespace PV
open PySem PySem.Spec PySem.Calls PyProof.Rows L2

/-! ### in -/
def inOk (d : PyData) (ds : List PyData) : Prop := d.depth ≤ 60 ∨ PyData.depthAll ds ≤ 60
instance (d : PyData) (ds : List PyData) : Decidable (inOk d ds) := by unfold inOk; exact inferInstance
def inD (d : PyData) (ds : List PyData) : Bool := ds.any fun y => PyData.eqv y d
def pIn : PyData → PyData → Option PyData
  | d, .list ds => if inOk d ds then some (.bool (inD d ds)) else none
  | d, .tuple ds => if inOk d ds then some (.bool (inD d ds)) else none
  | .str i, .str j => some (.bool (!(Builtin.Str.occurrences j i 0 j.length 1).isEmpty))
  | _, _ => none
def pNotIn : PyData → PyData → Option PyData
  | d, .list ds => if inOk d ds then some (.bool (!inD d ds)) else none
  | d, .tuple ds => if inOk d ds then some (.bool (!inD d ds)) else none
  | .str i, .str j => some (.bool (!!(Builtin.Str.occurrences j i 0 j.length 1).isEmpty))
  | _, _ => none
section
variable {X : Cx}
theorem opv_in {k : Nat} (hr : Room k X.A) : OpV X (compareOp .In) pIn := by
  intro pins s σ H x y v u Q I rx ry F d e r sf hx hy hg hq
  have hu := hr.units
  have hun := hr.un
  have hx' := Vd.dp d x (Vd.mono sf d x hx)
  have hy' := Vd.dp e y (Vd.mono sf e y hy)
  obtain ⟨as, r1⟩ := Dp.reads I d x v hx'.1 rx
  obtain ⟨bs, r2⟩ := Dp.reads I e y u hy'.1 ry
  unfold pIn at hg
  split at hg
  · obtain ⟨hp, rfl⟩ := some_of_if hg
    exact SeqAt.in_list_reads r2 r1 (by simpa only [PyData.canLay0] using hy'.2) hx'.2 (by rcases hp with h | h <;> omega) ⟨.bl _, H, I, rfl, hq _ _ F (Ext.refl sf) (.bl _)⟩
  · obtain ⟨hp, rfl⟩ := some_of_if hg
    exact SeqAt.in_tuple_reads r2 r1 (by simpa only [PyData.canLay0] using hy'.2) hx'.2 (by rcases hp with h | h <;> omega) ⟨.bl _, H, I, rfl, hq _ _ F (Ext.refl sf) (.bl _)⟩
  · cases hg
    cases hx
    cases hy
    exact op_in_str pins s σ H _ _ v u Q I rx ry ⟨_, _, rfl, rfl, hq _ _ F (Ext.refl sf) (.bl _)⟩
  · cases hg
theorem opv_notin {k : Nat} (hr : Room k X.A) : OpV X (compareOp .NotIn) pNotIn := by
  intro pins s σ H x y v u Q I rx ry F d e r sf hx hy hg hq
  have hu := hr.units
  have hun := hr.un
  have hx' := Vd.dp d x (Vd.mono sf d x hx)
  have hy' := Vd.dp e y (Vd.mono sf e y hy)
  obtain ⟨as, r1⟩ := Dp.reads I d x v hx'.1 rx
  obtain ⟨bs, r2⟩ := Dp.reads I e y u hy'.1 ry
  unfold pNotIn at hg
  split at hg
  · obtain ⟨hp, rfl⟩ := some_of_if hg
    exact SeqAt.notIn_list_reads r2 r1 (by simpa only [PyData.canLay0] using hy'.2) hx'.2 (by rcases hp with h | h <;> omega) ⟨.bl _, H, I, rfl, hq _ _ F (Ext.refl sf) (.bl _)⟩
  · obtain ⟨hp, rfl⟩ := some_of_if hg
    exact SeqAt.notIn_tuple_reads r2 r1 (by simpa only [PyData.canLay0] using hy'.2) hx'.2 (by rcases hp with h | h <;> omega) ⟨.bl _, H, I, rfl, hq _ _ F (Ext.refl sf) (.bl _)⟩
  · cases hg
    cases hx
    cases hy
    exact op_notin_str pins s σ H _ _ v u Q I rx ry ⟨_, _, rfl, rfl, hq _ _ F (Ext.refl sf) (.bl _)⟩
  · cases hg
end

/-! ### sorted -/
/-- the order of alike data -/
def leD (a b : PyData) : Bool := !PySem.W.dataLt b a
def sortOk (ds : List PyData) : Prop := PySem.W.AllAlike ds ∧ PySem.W.Sortable ds ∧ ∀ d ∈ ds, d.depth ≤ 60
open Classical in
noncomputable def bSorted : List PyData → Option PyData
  | [.list ds] => if sortOk ds then some (.list (ds.mergeSort leD)) else none
  | [.tuple ds] => none
  | _ => none
section
variable {X : Cx}
theorem vals_each : ∀ {xs : List V} {us : List Value} {ds : List PyData} {F : Hp}, Vals xs us → VdAll X.K F xs ds → PySem.W.EachIs (fun (v : Value) (b : V × PyData) => RelV b.1 v ∧ Vd X.K F b.1 b.2) us (xs.zip ds)
  | _, _, _, _, .nil, .nil => .nil
  | _, _, _, _, .cons r t, .cons h t' => .cons ⟨r, h⟩ (vals_each t t')
theorem each_vals {F : Hp} : ∀ {us : List Value} {zs : List (V × PyData)}, PySem.W.EachIs (fun (v : Value) (b : V × PyData) => RelV b.1 v ∧ Vd X.K F b.1 b.2) us zs → Vals (zs.map (·.1)) us ∧ VdAll X.K F (zs.map (·.1)) (zs.map (·.2))
  | _, _, .nil => ⟨.nil, .nil⟩
  | _, _, .cons r t => ⟨.cons r.1 (each_vals t).1, .cons r.2 (each_vals t).2⟩
theorem zip_snd {F : Hp} : ∀ {xs : List V} {ds : List PyData}, VdAll X.K F xs ds → (xs.zip ds).map (·.2) = ds
  | _, _, .nil => rfl
  | _, _, .cons _ t => by rw [List.zip_cons_cons, List.map_cons, zip_snd t]
theorem cb_sorted {k : Nat} (hr : Room k X.A) : CallR X (.builtin "sorted") (rCV X bSorted) := by
  intro pins s σ H xs us Q I r h
  obtain ⟨F, ds, d, sf, hv, hg, hq⟩ := h
  unfold bSorted at hg
  split at hg
  · rename_i es
    by_cases hp : sortOk es
    case neg => rw [if_neg hp] at hg; cases hg
    rw [if_pos hp] at hg
    cases hg
    obtain ⟨v, rfl, h1⟩ := vd1 hv
    cases h1 with
    | @lst a ys _ hs hz ha =>
      rw [Vals.ref1 r]
      obtain ⟨its, rv, hl, hz'⟩ := I.list (sf.seq hs)
      have hmap : (ys.zip es).map (fun b : V × PyData => b.2) = es := zip_snd ha
      have hun := hr.un
      have ev := vals_each rv ha
      have hlen : (ys.zip es).length = es.length := by rw [← hmap, List.length_map, hmap]
      refine PySem.W.sorted_data (β := V × PyData) (enc := fun b => b.2) (vs := its) (bs := ys.zip es) hl.isList ev ?_ (by rw [hmap]; exact hp.1) (by rw [hmap]; exact hp.2.1) (by rw [hlen, ← ha.length]; exact hz) (fun b hb => ?_) fun out ho eo => ?_
      · refine ev.mono fun u b ⟨q1, q2⟩ => ?_
        exact Dp.reads I b.2 b.1 u (Vd.dp b.2 b.1 (Vd.mono sf b.2 b.1 q2)).1 q1
      · have hm : b.2 ∈ es := by rw [← hmap]; exact List.mem_map.mpr ⟨b, hb, rfl⟩
        have := hp.2.2 b.2 hm
        omega
      · obtain ⟨k1, k2⟩ := each_vals eo
        obtain ⟨ep, he'⟩ := PyProof.Rows.sortedAll_at s.heap its out.toArray
        have hsort : ((ys.zip es).mergeSort (PySem.W.dataLe false fun b : V × PyData => b.2)).map (·.2) = es.mergeSort leD := by
          have := PySem.W.sort_maps (r := PySem.W.dataLe false fun b : V × PyData => b.2) (s := leD) (fun b : V × PyData => b.2) (l := ys.zip es) fun a _ b _ => rfl
          rw [this, hmap]
        have hz2 : (((ys.zip es).mergeSort (PySem.W.dataLe false fun b : V × PyData => b.2)).map (·.1)).length ≤ sizeLine := by
          rw [List.length_map, List.length_mergeSort, hlen, ← ha.length]; exact hz
        rw [hsort] at k2
        refine ⟨.ref _, upd H (s.heap.objs.size + 1) (.lst _), I.laid (t' := s.toks) (fun _ _ => PyProof.Rows.sortedAll_old) (Nat.le_succ _) ⟨hz2, out, ep, k1, he'⟩, rfl, ?_⟩
        exact new_lst sf hz2 k2 hq _ (I.hok.fresh (Nat.le_succ _))
  · cases hg
  · cases hg
end
/-- the law's end, what may be let out hanging on the world -/
theorem walk_world {l : PySem.W.OpenLaw} {n k : Nat} {q : Program} {loose : List Str} {XP : (Str → Option Value) → Heap → Prop} {YP : World → Heap → Prop} {dr : DefRec} {x : Str} (hn : l.most = some n) (hn2 : n ≤ sizeLine) (hdf : dr.params.defaults = []) (hr : Room k callerA)
    (Fz : ∀ (w : World) (mg : Str → Option Value) (fa : Addr) (h : Heap), YP w h → h.Ns mainGlobals mg → mg dr.name = some (.ref fa) →
      ∃ (K : PySem.W.Frag) (fd : FuncData) (sp : Sp), K.In h ∧ (∀ (s : Shared) (u : Value), BindsTo s fd ⟨[u], []⟩ [(x, u)]) ∧
        (∀ (H : Hp) (a : Addr) (ns : List Int), ns.length ≤ n → SqL K H a (ns.map V.int) → sp [.ref a] H (fun v _ => v = .bl true) fun _ _ _ => False) ∧
        ∀ base : Heap, K.In base → base.Ns mainGlobals mg → FnOk l.prog w K mg base (L2.CX l.prog w) k fa fd [x] sp) :
    PySem.W.WalkO q loose XP YP l.row.toRowW dr [] (fun f vs => PySem.call f vs) := by
  refine Att.attach_call hn hdf fun w s₀ s₁ mg mb fa o pm cd doc a vs ns G Y ho hd hcd hmg hobj hints hlen hg => ?_
  obtain ⟨K, fd, sp, KX, hb, hsp, hF⟩ := Fz w mg fa _ Y G.T.g hmg
  refine law_call KX G.T.g G.T.b G.T.builtins G.T.nolimit hg hobj hints (Nat.le_trans hlen hn2) hr hF hb (fun H _ hS => hsp H a ns hlen hS) fun H e s' z => ?_
  obtain ⟨_, _, _, _, _, _, _, _, _, _, _, _, z⟩ := z
  exact z.elim
end PV
end
section
set_option Elab.async false
set_option linter.all false
set_option maxRecDepth 100000
set_option maxHeartbeats 4000000
namespace PV
open PySem

/-! ### meanings, reckoned -/
theorem nr {α : Sort _} {a b : α} (h : a = b) : a = b := h
@[simp] theorem bind_ok {ε α β : Type} (a : α) (f : α → R ε β) : R.bind (.ok a) f = f a := nr rfl
@[simp] theorem bind_bad {ε α β : Type} (f : α → R ε β) : R.bind (.bad) f = .bad := nr rfl
@[simp] theorem bind_exc {ε α β : Type} (c : Str) (e : ε) (f : α → R ε β) : R.bind (.exc c e) f = .exc c e := nr rfl
@[simp] theorem at_ok {α : Type} (a : α) (ρ : Evn) : R.at (.ok a : RE α) ρ = .ok a := nr rfl
@[simp] theorem at_exc {α : Type} (c : Str) (u : Unit) (ρ : Evn) : R.at (.exc c u : RE α) ρ = .exc c ρ := nr rfl
@[simp] theorem ofO_some {α : Type} (a : α) : ofO (some a) = .ok a := nr rfl
@[simp] theorem oS_some {α : Type} (a : α) : oS (some a) = .ok a := nr rfl
@[simp] theorem nox_okk {α : Type} (a : α) : nox (.ok a : RE α) = .ok a := nr rfl
/-- a name's datum -/
def gtE : Evn → Nat → RE PyData
  | [], _ => .bad
  | some (.val d) :: _, 0 => .ok d
  | some (.own _) :: _, 0 => .bad
  | some (.exn _) :: _, 0 => .bad
  | none :: _, 0 => .bad
  | _ :: r, n + 1 => gtE r n
/-- a list of one's own -/
def gtO : Evn → Nat → Option (List PyData)
  | [], _ => none
  | some (.val _) :: _, 0 => none
  | some (.own ds) :: _, 0 => some ds
  | some (.exn _) :: _, 0 => none
  | none :: _, 0 => none
  | _ :: r, n + 1 => gtO r n
/-- either -/
def gtA : Evn → Nat → RE PyData
  | [], _ => .bad
  | some (.val d) :: _, 0 => .ok d
  | some (.own ds) :: _, 0 => .ok (.list ds)
  | some (.exn _) :: _, 0 => .bad
  | none :: _, 0 => .bad
  | _ :: r, n + 1 => gtA r n
/-- put in -/
def stE : Evn → Nat → Cel → Evn
  | [], _, _ => []
  | _ :: r, 0, x => some x :: r
  | o :: r, n + 1, x => o :: stE r n x
/-- made empty -/
def clE : Evn → Nat → Evn
  | [], _ => []
  | _ :: r, 0 => none :: r
  | o :: r, n + 1 => o :: clE r n
/-- frozen -/
def fzE : Evn → Nat → Evn
  | [], _ => []
  | some (.own ds) :: r, 0 => some (.val (.list ds)) :: r
  | some (.val d) :: r, 0 => some (.val d) :: r
  | some (.exn c) :: r, 0 => some (.exn c) :: r
  | none :: r, 0 => none :: r
  | o :: r, n + 1 => o :: fzE r n
@[simp] theorem g_v (d : PyData) (r : Evn) : gtE (some (.val d) :: r) 0 = .ok d := nr rfl
@[simp] theorem g_s (o : Option Cel) (r : Evn) (n : Nat) : gtE (o :: r) (n + 1) = gtE r n := by cases o with
  | none => rfl
  | some c => cases c <;> rfl
@[simp] theorem go_v (ds : List PyData) (r : Evn) : gtO (some (.own ds) :: r) 0 = some ds := nr rfl
@[simp] theorem go_s (o : Option Cel) (r : Evn) (n : Nat) : gtO (o :: r) (n + 1) = gtO r n := by cases o with
  | none => rfl
  | some c => cases c <;> rfl
@[simp] theorem ga_v (d : PyData) (r : Evn) : gtA (some (.val d) :: r) 0 = .ok d := nr rfl
@[simp] theorem ga_o (ds : List PyData) (r : Evn) : gtA (some (.own ds) :: r) 0 = .ok (.list ds) := nr rfl
@[simp] theorem ga_s (o : Option Cel) (r : Evn) (n : Nat) : gtA (o :: r) (n + 1) = gtA r n := by cases o with
  | none => rfl
  | some c => cases c <;> rfl
@[simp] theorem s_z (o : Option Cel) (r : Evn) (x : Cel) : stE (o :: r) 0 x = some x :: r := nr rfl
@[simp] theorem s_s (o : Option Cel) (r : Evn) (n : Nat) (x : Cel) : stE (o :: r) (n + 1) x = o :: stE r n x := nr rfl
@[simp] theorem c_z (o : Option Cel) (r : Evn) : clE (o :: r) 0 = none :: r := nr rfl
@[simp] theorem c_s (o : Option Cel) (r : Evn) (n : Nat) : clE (o :: r) (n + 1) = o :: clE r n := nr rfl
theorem set_clE : ∀ (ρ : Evn) (i : Nat), ρ.set i none = clE ρ i
  | [], _ => rfl
  | _ :: _, 0 => rfl
  | o :: r, n + 1 => by rw [List.set_cons_succ, set_clE r n]; rfl
@[simp] theorem fz_o (ds : List PyData) (r : Evn) : fzE (some (.own ds) :: r) 0 = some (.val (.list ds)) :: r := nr rfl
@[simp] theorem fz_v (d : PyData) (r : Evn) : fzE (some (.val d) :: r) 0 = some (.val d) :: r := nr rfl
@[simp] theorem fz_s (o : Option Cel) (r : Evn) (n : Nat) : fzE (o :: r) (n + 1) = o :: fzE r n := by cases o with
  | none => rfl
  | some c => cases c <;> rfl
theorem set_stE : ∀ (ρ : Evn) (i : Nat) (x : Cel), ρ.set i (some x) = stE ρ i x
  | [], _, _ => rfl
  | _ :: _, 0, _ => rfl
  | o :: r, n + 1, x => by rw [List.set_cons_succ, set_stE r n x]; rfl
@[simp] theorem e_mGet (i : Nat) (ρ : Evn) : mGet i ρ = gtE ρ i := by
  unfold mGet
  induction ρ generalizing i with
  | nil => rfl
  | cons o r ih => cases i with
    | zero => rcases o with _ | ⟨_ | _ | _⟩ <;> rfl
    | succ n => rw [List.getElem?_cons_succ, g_s]; exact ih n
theorem ownAt_gtO (i : Nat) (ρ : Evn) : ownAt i ρ = gtO ρ i := by
  unfold ownAt
  induction ρ generalizing i with
  | nil => rfl
  | cons o r ih => cases i with
    | zero => rcases o with _ | ⟨_ | _ | _⟩ <;> rfl
    | succ n => rw [List.getElem?_cons_succ, go_s]; exact ih n
theorem fz_eq (i : Nat) (ρ : Evn) : freeze i ρ = fzE ρ i := by
  unfold freeze
  induction ρ generalizing i with
  | nil => rfl
  | cons o r ih => cases i with
    | zero => rcases o with _ | ⟨_ | _ | _⟩ <;> rfl
    | succ n =>
      rw [List.getElem?_cons_succ, fz_s]
      rw [← ih n]
      cases r[n]? with
      | none => rfl
      | some o => rcases o with _ | ⟨_ | _ | _⟩ <;> rfl
@[simp] theorem e_mC (d : PyData) (ρ : Evn) : mC d ρ = .ok d := nr rfl
@[simp] theorem e_m2 (g : PyData → PyData → Option PyData) (fa fb : Evn → RE PyData) (ρ : Evn) : m2 g fa fb ρ = (fa ρ).bind fun x => (fb ρ).bind fun y => ofO (g x y) := nr rfl
@[simp] theorem e_m1 (g : PyData → Option PyData) (fa : Evn → RE PyData) (ρ : Evn) : m1 g fa ρ = (fa ρ).bind fun d => ofO (g d) := nr rfl
@[simp] theorem e_mT (f : Evn → RE PyData) (ρ : Evn) : mT f ρ = (f ρ).bind fun d => ofO (truth d) := nr rfl
@[simp] theorem e_mB (f : Evn → RE PyData) (ρ : Evn) : mB f ρ = (f ρ).bind fun d => ofO (toB d) := nr rfl
@[simp] theorem e_mAndB (fa fb : Evn → RE Bool) (ρ : Evn) : mAndB fa fb ρ = (fa ρ).bind fun c => if c then fb ρ else .ok false := nr rfl
@[simp] theorem e_mOrB (fa fb : Evn → RE Bool) (ρ : Evn) : mOrB fa fb ρ = (fa ρ).bind fun c => if c then .ok true else fb ρ := nr rfl
@[simp] theorem e_mNotB (fa : Evn → RE Bool) (ρ : Evn) : mNotB fa ρ = (fa ρ).bind fun c => .ok (!c) := nr rfl
@[simp] theorem e_mAnd (fa fb : Evn → RE PyData) (ρ : Evn) : mAnd fa fb ρ = (fa ρ).bind fun d => (ofO (toB d)).bind fun c => if c then fb ρ else .ok (.bool false) := nr rfl
@[simp] theorem e_mOr (fa fb : Evn → RE PyData) (ρ : Evn) : mOr fa fb ρ = (fa ρ).bind fun d => (ofO (toB d)).bind fun c => if c then .ok (.bool true) else fb ρ := nr rfl
@[simp] theorem e_mIf (fc : Evn → RE Bool) (fa fb : Evn → RE PyData) (ρ : Evn) : mIf fc fa fb ρ = (fc ρ).bind fun c => if c then fa ρ else fb ρ := nr rfl
@[simp] theorem e_mChain (g g' : PyData → PyData → Option PyData) (fa fb fc : Evn → RE PyData) (ρ : Evn) : mChain g g' fa fb fc ρ =
  (fa ρ).bind fun x => (fb ρ).bind fun y => (ofO (g x y)).bind fun z => (ofO (toB z)).bind fun k => if k then (fc ρ).bind fun w => ofO (g' y w) else .ok (.bool false) := nr rfl
@[simp] theorem e_mNil (ρ : Evn) : mNil ρ = .ok [] := nr rfl
@[simp] theorem e_mCons (f : Evn → RE PyData) (g : Evn → RE (List PyData)) (ρ : Evn) : mCons f g ρ = (f ρ).bind fun d => (g ρ).bind fun ds => .ok (d :: ds) := nr rfl
@[simp] theorem e_mSeq (k : List PyData → RE PyData) (g : Evn → RE (List PyData)) (ρ : Evn) : mSeq k g ρ = (g ρ).bind k := nr rfl
@[simp] theorem e_mCall (g : List PyData → Option PyData) (fa : Evn → RE (List PyData)) (ρ : Evn) : mCall g fa ρ = (fa ρ).bind fun ds => ofO (g ds) := nr rfl
@[simp] theorem e_mNo (ρ : Evn) : mNo ρ = .ok none := nr rfl
@[simp] theorem e_mPart (f : Evn → RE PyData) (ρ : Evn) : mPart f ρ = (f ρ).bind fun d => (ofO (toI d)).bind fun i => .ok (some i) := nr rfl
@[simp] theorem e_mCut (f : Evn → RE PyData) (l h : Evn → RE (Option Int)) (ρ : Evn) : mCut f l h ρ = (f ρ).bind fun d => (l ρ).bind fun lo => (h ρ).bind fun hi => ofO (pCut d lo hi) := nr rfl
@[simp] theorem e_mIs (T : Ty) (f : Evn → RE PyData) (ρ : Evn) : mIs T f ρ = (f ρ).bind fun d => .ok (.bool (isTy T d)) := nr rfl
@[simp] theorem e_mIs2 (T U : Ty) (f : Evn → RE PyData) (ρ : Evn) : mIs2 T U f ρ = (f ρ).bind fun d => .ok (.bool (isTy T d || isTy U d)) := nr rfl
@[simp] theorem e_mL (f : Evn → RE (List PyData)) (ρ : Evn) : mL f ρ = (f ρ).bind fun ds => .ok (.list ds) := nr rfl
@[simp] theorem e_mDsp (g : Evn → RE (List PyData)) (ρ : Evn) : mDsp g ρ = (g ρ).bind fun ds => if ds.length ≤ sizeLine then .ok ds else .bad := nr rfl
@[simp] theorem e_mRep (g : Evn → RE (List PyData)) (f : Evn → RE PyData) (ρ : Evn) : mRep g f ρ = (mDsp g ρ).bind fun ds => (f ρ).bind (pRep ds) := nr rfl
@[simp] theorem e_mBind (f : Evn → RE PyData) (k : PyData → RE (List PyData)) (ρ : Evn) : mBind f k ρ = (f ρ).bind k := nr rfl
@[simp] theorem e_mIxO (i : Nat) (fk : Evn → RE PyData) (ρ : Evn) : mIxO i fk ρ = (gtA ρ i).bind fun d => (fk ρ).bind fun k => ofO (pIdx d k) := by
  unfold mIxO
  have : ∀ (ρ : Evn) (i : Nat) (fk : RE PyData), (match ρ[i]? with | some (some (.own ds)) => fk.bind fun k => ofO (pIdx (.list ds) k) | some (some (.val d)) => fk.bind fun k => ofO (pIdx d k) | _ => (.bad : RE PyData)) = (gtA ρ i).bind fun d => fk.bind fun k => ofO (pIdx d k) := by
    intro ρ
    induction ρ with
    | nil => intro i fk; rfl
    | cons o r ih => intro i fk; cases i with
      | zero => rcases o with _ | ⟨_ | _ | _⟩ <;> rfl
      | succ n => rw [List.getElem?_cons_succ, ga_s]; exact ih n fk
  exact this ρ i (fk ρ)
@[simp] theorem e_mBor (i : Nat) (f : Evn → RE PyData) (ρ : Evn) : mBor i f ρ = (f (freeze i ρ)).bind fun d => if scal d then .ok d else .bad := nr rfl
@[simp] theorem e_mBorB (i : Nat) (f : Evn → RE Bool) (ρ : Evn) : mBorB i f ρ = f (freeze i ρ) := nr rfl
@[simp] theorem e_mItems (f : Evn → RE PyData) (ρ : Evn) : mItems f ρ = (f ρ).bind fun d => ofO (itemsOf d) := nr rfl
@[simp] theorem e_mWk (g : List PyData → Option (List PyData)) (fa : Evn → RE (List PyData)) (ρ : Evn) : mWk g fa ρ = (fa ρ).bind fun ds => ofO (g ds) := nr rfl
@[simp] theorem e_mRev (f : Evn → RE PyData) (ρ : Evn) : mRev f ρ = (f ρ).bind fun d => ofO (rev1 d) := nr rfl
@[simp] theorem e_mYes (ρ : Evn) : mYes ρ = .ok true := nr rfl
@[simp] theorem e_mLc (g : Evn → RE (List PyData)) (m : PyData → Evn → Option Evn) (t : Evn → RE Bool) (e : Evn → RE PyData) (vs : List Nat) (ρ : Evn) : mLc g m t e vs ρ = (g ρ).bind fun ds => if ds.length ≤ sizeLine then lcM m t e (wipeE ρ vs) ds else .bad := nr rfl
@[simp] theorem e_gN (i : Nat) (d : PyData) (ρ : Evn) : gN i d ρ = some (stE ρ i (.val d)) := by rw [← set_stE]; rfl
@[simp] theorem e_gE (ρ : Evn) : gE [] ρ = some ρ := nr rfl
@[simp] theorem e_gC (m : PyData → Evn → Option Evn) (ms : List PyData → Evn → Option Evn) (d : PyData) (r : List PyData) (ρ : Evn) : gC m ms (d :: r) ρ = (m d ρ).bind (ms r) := nr rfl
@[simp] theorem e_gTt (n : Nat) (ms : List PyData → Evn → Option Evn) (ds : List PyData) (ρ : Evn) : gT n ms (.tuple ds) ρ = if ds.length = n then ms ds ρ else none := nr rfl
@[simp] theorem e_gTl (n : Nat) (ms : List PyData → Evn → Option Evn) (ds : List PyData) (ρ : Evn) : gT n ms (.list ds) ρ = if ds.length = n then ms ds ρ else none := nr rfl
@[simp] theorem e_sNx (ρ : Evn) : sNx ρ = .ok (.nx, ρ) := nr rfl
@[simp] theorem e_sThen (f g : Evn → RS) (ρ : Evn) : sThen f g ρ = (f ρ).bind fun p => match p.1 with | .nx => g p.2 | _ => .ok p := nr rfl
@[simp] theorem e_sDrop (f : Evn → RE PyData) (ρ : Evn) : sDrop f ρ = ((f ρ).at ρ).bind fun _ => .ok (.nx, ρ) := nr rfl
@[simp] theorem e_sRet (f : Evn → RE PyData) (ρ : Evn) : sRet f ρ = ((f ρ).at ρ).bind fun d => .ok (.rt d, ρ) := nr rfl
@[simp] theorem e_sSet (i : Nat) (f : Evn → RE PyData) (ρ : Evn) : sSet i f ρ = ((f ρ).at ρ).bind fun d => .ok (.nx, stE ρ i (.val d)) := by simp only [← set_stE]; rfl
@[simp] theorem e_sIf (c : Evn → RE Bool) (f g : Evn → RS) (ρ : Evn) : sIf c f g ρ = ((c ρ).at ρ).bind fun b => if b then f ρ else g ρ := nr rfl
@[simp] theorem e_sFor (g : Evn → RE (List PyData)) (m : PyData → Evn → Option Evn) (body : Evn → RS) (ρ : Evn) : sFor g m body ρ = ((g ρ).at ρ).bind fun ds => forM m body ds ρ := nr rfl
@[simp] theorem e_sAsg (f : Evn → RE PyData) (m : PyData → Evn → Option Evn) (ρ : Evn) : sAsg f m ρ = ((f ρ).at ρ).bind fun d => (oS (m d ρ)).bind fun ρ' => .ok (.nx, ρ') := nr rfl
@[simp] theorem e_sPar (i j : Nat) (fa : Evn → RE (List PyData)) (ρ : Evn) : sPar i j fa ρ = ((fa ρ).at ρ).bind fun ds => match ds with
  | [d, e] => .ok (.nx, stE (stE ρ i (.val d)) j (.val e))
  | _ => .bad := by simp only [← set_stE]; rfl
@[simp] theorem e_sSetO (i : Nat) (f : Evn → RE (List PyData)) (ρ : Evn) : sSetO i f ρ = ((f ρ).at ρ).bind fun ds => .ok (.nx, stE ρ i (.own ds)) := by simp only [← set_stE]; rfl
@[simp] theorem e_sSetL (i : Nat) (f : Evn → RE (List PyData)) (ρ : Evn) : sSetL i f ρ = ((f ρ).at ρ).bind fun ds => .ok (.nx, stE ρ i (.val (.list ds))) := by simp only [← set_stE]; rfl
@[simp] theorem e_ownAt (i : Nat) (ρ : Evn) : ownAt i ρ = gtO ρ i := ownAt_gtO i ρ
@[simp] theorem e_freeze (i : Nat) (ρ : Evn) : freeze i ρ = fzE ρ i := fz_eq i ρ
@[simp] theorem e_sApp (i : Nat) (f : Evn → RE PyData) (ρ : Evn) : sApp i f ρ = (oS (gtO ρ i)).bind fun ds => ((f ρ).at ρ).bind fun d => if ds.length < sizeLine then .ok (.nx, stE ρ i (.own (ds ++ [d]))) else .bad := by
  rw [← ownAt_gtO]; simp only [← set_stE]; unfold sApp; cases ownAt i ρ <;> rfl
@[simp] theorem e_sSetIx (i : Nat) (fk fe : Evn → RE PyData) (ρ : Evn) : sSetIx i fk fe ρ = (oS (gtO ρ i)).bind fun ds => ((fe ρ).at ρ).bind fun d => ((fk ρ).at ρ).bind fun k => (oS (setD ds k d)).bind fun es => .ok (.nx, stE ρ i (.own es)) := by
  rw [← ownAt_gtO]; simp only [← set_stE]; unfold sSetIx; cases ownAt i ρ <;> rfl
@[simp] theorem e_sAugIx (i : Nat) (fk : Evn → RE PyData) (f : Int → Int → Int) (fe : Evn → RE PyData) (ρ : Evn) : sAugIx i fk f fe ρ = (oS (gtO ρ i)).bind fun ds => ((fk ρ).at ρ).bind fun k => (oS (pIdx (.list ds) k)).bind fun old => ((fe ρ).at ρ).bind fun d => (oS ((iOp f old d).bind (setD ds k))).bind fun es => .ok (.nx, stE ρ i (.own es)) := by
  rw [← ownAt_gtO]; simp only [← set_stE]; unfold sAugIx; cases ownAt i ρ <;> rfl
@[simp] theorem e_sAug (i : Nat) (g : PyData → PyData → Option PyData) (f : Evn → RE PyData) (ρ : Evn) : sAug i g f ρ = ((gtE ρ i).at ρ).bind fun d => ((f ρ).at ρ).bind fun e => (oS (g d e)).bind fun r => .ok (.nx, stE ρ i (.val r)) := by
  rw [← e_mGet]; simp only [← set_stE]; unfold sAug mGet
  rcases ρ[i]? with _ | _ | ⟨_ | _ | _⟩ <;> rfl
@[simp] theorem e_sPop (i : Nat) (ρ : Evn) : sPop i ρ = (oS (gtO ρ i)).bind fun ds => (oS ds.getLast?).bind fun _ => .ok (.nx, stE ρ i (.own ds.dropLast)) := by
  rw [← ownAt_gtO]; simp only [← set_stE]; unfold sPop; cases ownAt i ρ <;> rfl
@[simp] theorem e_sPopTo (i j : Nat) (ρ : Evn) : sPopTo i j ρ = (oS (gtO ρ i)).bind fun ds => (oS ds.getLast?).bind fun d => .ok (.nx, stE (stE ρ i (.own ds.dropLast)) j (.val d)) := by
  rw [← ownAt_gtO]; simp only [← set_stE]; unfold sPopTo; cases ownAt i ρ <;> rfl
@[simp] theorem e_fnM (n N : Nat) (body : Evn → RS) (ds : List PyData) : fnM n N body ds = if ds.length = n then bodyOut (body (startE N ds)) else .bad := nr rfl
@[simp] theorem e_bo_rt (d : PyData) (ρ : Evn) : bodyOut (.ok (.rt d, ρ)) = .ok d := nr rfl
@[simp] theorem e_bo_nx (ρ : Evn) : bodyOut (.ok (.nx, ρ)) = .ok .none := nr rfl
@[simp] theorem e_bo_exc (c : Str) (ρ : Evn) : bodyOut (.exc c ρ) = .exc c () := nr rfl
@[simp] theorem e_startE (N : Nat) (ds : List PyData) : startE N ds = ds.map (fun d => some (.val d)) ++ List.replicate (N - ds.length) none := nr rfl
@[simp] theorem e_wipe0 (ρ : Evn) : wipeE ρ [] = ρ := nr rfl
@[simp] theorem e_wipe1 (ρ : Evn) (v : Nat) (vs : List Nat) : wipeE ρ (v :: vs) = clE (wipeE ρ vs) v := by rw [← set_clE]; exact id rfl
/-! operators on data -/
@[simp] theorem d_add (i j : Int) : pAdd (.int i) (.int j) = some (.int (i + j)) := nr rfl
@[simp] theorem d_addib (i : Int) (b : Bool) : pAdd (.int i) (.bool b) = some (.int (i + PyProof.Rows.b2i b)) := nr rfl
@[simp] theorem d_addl (xs ys : List PyData) : pAdd (.list xs) (.list ys) = if xs.length + ys.length ≤ sizeLine then some (.list (xs ++ ys)) else none := nr rfl
@[simp] theorem d_addt (xs ys : List PyData) : pAdd (.tuple xs) (.tuple ys) = if xs.length + ys.length ≤ sizeLine then some (.tuple (xs ++ ys)) else none := nr rfl
@[simp] theorem d_sub (i j : Int) : pSub (.int i) (.int j) = some (.int (i - j)) := nr rfl
@[simp] theorem d_mul (i j : Int) : pMul (.int i) (.int j) = if mulOk i j then some (.int (i * j)) else none := nr rfl
@[simp] theorem d_mulS (x : Str) : pMul (.str x) (.int 1) = some (.str x) := nr rfl
@[simp] theorem d_div (i j : Int) : pDiv (.int i) (.int j) = if divOk j then some (.int (i.fdiv j)) else none := nr rfl
@[simp] theorem d_mod (i j : Int) : pMod (.int i) (.int j) = if j ≠ 0 then some (.int (i.fmod j)) else none := nr rfl
@[simp] theorem d_pow (i j : Int) : pPow (.int i) (.int j) = if powOk i j then some (.int (i ^ j.toNat)) else none := nr rfl
@[simp] theorem d_cmp (p : Int → Int → Bool) (i j : Int) : pCmp p (.int i) (.int j) = some (.bool (p i j)) := nr rfl
@[simp] theorem d_neg (i : Int) : pNeg (.int i) = some (.int (-i)) := nr rfl
@[simp] theorem d_not (b : Bool) : pNot (.bool b) = some (.bool !b) := nr rfl
@[simp] theorem d_iadd (i j : Int) : pIAdd (.int i) (.int j) = some (.int (i + j)) := nr rfl
@[simp] theorem d_iop (f : Int → Int → Int) (i j : Int) : iOp f (.int i) (.int j) = some (.int (f i j)) := nr rfl
@[simp] theorem d_toB (b : Bool) : toB (.bool b) = some b := nr rfl
@[simp] theorem d_toI (i : Int) : toI (.int i) = some i := nr rfl
@[simp] theorem d_trB (b : Bool) : truth (.bool b) = some b := nr rfl
@[simp] theorem d_trI (i : Int) : truth (.int i) = some (i != 0) := nr rfl
@[simp] theorem d_trN : truth .none = some false := nr rfl
@[simp] theorem d_trL (xs : List PyData) : truth (.list xs) = some (!xs.isEmpty) := nr rfl
@[simp] theorem d_trT (xs : List PyData) : truth (.tuple xs) = some (!xs.isEmpty) := nr rfl
@[simp] theorem d_lenL (xs : List PyData) : bLen [.list xs] = some (.int xs.length) := nr rfl
@[simp] theorem d_lenT (xs : List PyData) : bLen [.tuple xs] = some (.int xs.length) := nr rfl
@[simp] theorem d_intI (i : Int) : bInt [.int i] = some (.int i) := nr rfl
@[simp] theorem d_intB (b : Bool) : bInt [.bool b] = some (.int (if b then 1 else 0)) := nr rfl
@[simp] theorem d_abs (i : Int) : bAbs [.int i] = some (.int (if i < 0 then -i else i)) := nr rfl
@[simp] theorem d_gcd (a b : Int) : bGcd [.int a, .int b] = some (.int ((Nat.gcd a.natAbs b.natAbs : Nat) : Int)) := nr rfl
@[simp] theorem d_max2 (i j : Int) : bMax [.int i, .int j] = some (.int (if j > i then j else i)) := nr rfl
@[simp] theorem d_min2 (i j : Int) : bMin [.int i, .int j] = some (.int (if j < i then j else i)) := nr rfl
@[simp] theorem d_sumI (ns : List Int) : bSum [.list (ns.map .int)] = some (.int ns.sum) := by simp only [bSum, ints?_map, Option.map_some]
@[simp] theorem d_anyB (ns : List Bool) : bAny [.list (ns.map .bool)] = some (.bool (ns.any id)) := by simp only [bAny, bools?_map, Option.map_some]
@[simp] theorem d_allB (ns : List Bool) : bAll [.list (ns.map .bool)] = some (.bool (ns.all id)) := by simp only [bAll, bools?_map, Option.map_some]
@[simp] theorem d_maxL (ns : List Int) : bMax [.list (ns.map .int)] = (lmax ns).map .int := by cases ns <;> simp only [bMax, ints?_map, Option.bind_some]
@[simp] theorem d_minL (ns : List Int) : bMin [.list (ns.map .int)] = (lmin ns).map .int := by cases ns <;> simp only [bMin, ints?_map, Option.bind_some]
@[simp] theorem d_listL (xs : List PyData) : bList [.list xs] = some (.list xs) := nr rfl
@[simp] theorem d_listT (xs : List PyData) : bList [.tuple xs] = some (.list xs) := nr rfl
@[simp] theorem d_tupL (xs : List PyData) : bTuple [.list xs] = some (.tuple xs) := nr rfl
@[simp] theorem d_tupT (xs : List PyData) : bTuple [.tuple xs] = some (.tuple xs) := nr rfl
@[simp] theorem d_idxL (ds : List PyData) (i : Int) : pIdx (.list ds) (.int i) = L2.atI ds i := nr rfl
@[simp] theorem d_idxT (ds : List PyData) (i : Int) : pIdx (.tuple ds) (.int i) = L2.atI ds i := nr rfl
@[simp] theorem d_lstL (ds : List PyData) : pLst (.list ds) = .ok ds := nr rfl
@[simp] theorem d_lstT (ds : List PyData) : pLst (.tuple ds) = .ok ds := nr rfl
@[simp] theorem d_revL (ds : List PyData) : pRevL (.list ds) = .ok ds.reverse := nr rfl
@[simp] theorem d_itL (ds : List PyData) : itemsOf (.list ds) = some ds := nr rfl
@[simp] theorem d_itT (ds : List PyData) : itemsOf (.tuple ds) = some ds := nr rfl
@[simp] theorem d_rng1 (j : Int) : rng1 [.int j] = if r62 j then some (rangeL 0 j.toNat) else none := nr rfl
@[simp] theorem d_rng3 (i j c : Int) : rng3 [.int i, .int j, .int c] = if stepOk i j c then some (rangeC i c (Builtin.Range.rangeSize i j c).toNat) else none := nr rfl
@[simp] theorem d_rng2 (i j : Int) : rng2 [.int i, .int j] = if r62 i ∧ r62 j then some (rangeL i (j - i).toNat) else none := nr rfl
@[simp] theorem d_enum1 (ds : List PyData) : enum1 [.list ds] = some (enumL 0 ds) := nr rfl
@[simp] theorem d_zip2 (ds es : List PyData) : zip2 [.list ds, .list es] = some (zipL ds es) := nr rfl
@[simp] theorem d_rev1L (ds : List PyData) : rev1 (.list ds) = some ds.reverse := nr rfl
@[simp] theorem d_rev1T (ds : List PyData) : rev1 (.tuple ds) = some ds.reverse := nr rfl
@[simp] theorem d_cutL (ds : List PyData) (lo hi : Option Int) : pCut (.list ds) lo hi = some (.list (cutA ds lo hi)) := nr rfl
@[simp] theorem d_cutT (ds : List PyData) (lo hi : Option Int) : pCut (.tuple ds) lo hi = some (.tuple (cutA ds lo hi)) := nr rfl
@[simp] theorem d_rep (ds : List PyData) (k : Int) : pRep ds (.int k) = if repOk ds.length k then .ok (List.replicate k.toNat ds).flatten else .bad := nr rfl
@[simp] theorem d_mTup (ds : List PyData) : mTup ds = if ds.length ≤ sizeLine then .ok (.tuple ds) else .bad := nr rfl
@[simp] theorem d_mLst (ds : List PyData) : mLst ds = if ds.length ≤ sizeLine then .ok (.list ds) else .bad := nr rfl
@[simp] theorem d_setD (ds : List PyData) (j : Int) (d : PyData) : setD ds (.int j) d = (L2.ixN ds.length j).map fun n => ds.set n d := nr rfl
@[simp] theorem d_scN : scal .none = true := nr rfl
@[simp] theorem d_scB (b : Bool) : scal (.bool b) = true := nr rfl
@[simp] theorem d_scI (i : Int) : scal (.int i) = true := nr rfl
@[simp] theorem d_scS (x : Str) : scal (.str x) = true := nr rfl
@[simp] theorem d_isN (d : PyData) : pIsN d .none = some (.bool (isNone d)) := nr rfl
@[simp] theorem d_isNN (d : PyData) : pIsNotN d .none = some (.bool (!isNone d)) := nr rfl
@[simp] theorem d_nN : isNone .none = true := nr rfl
@[simp] theorem d_nB (b : Bool) : isNone (.bool b) = false := nr rfl
@[simp] theorem d_nI (i : Int) : isNone (.int i) = false := nr rfl
@[simp] theorem d_nS (x : Str) : isNone (.str x) = false := nr rfl
@[simp] theorem d_nL (x : List PyData) : isNone (.list x) = false := nr rfl
@[simp] theorem d_nT (x : List PyData) : isNone (.tuple x) = false := nr rfl
/-! guards -/
theorem mulOk_r {i j : Int} (h1 : -(2 ^ 64) < j) (h2 : j < 2 ^ 64) : mulOk i j := .inr (.inl ⟨h1, h2⟩)
theorem mulOk_l {i j : Int} (h1 : -(2 ^ 64) < i) (h2 : i < 2 ^ 64) : mulOk i j := .inl ⟨h1, h2⟩
theorem divOk_s {j : Int} (h1 : 0 < j) (h2 : j < 2 ^ 64) : divOk j := by
  refine ⟨by omega, ?_⟩
  have h3 : j.natAbs < 2 ^ 64 := by omega
  have h4 := (Nat.log2_lt (by omega)).mpr h3
  omega
theorem r62_s {j : Int} (h1 : -(2 ^ 62) ≤ j) (h2 : j < 2 ^ 62) : r62 j := ⟨h1, h2⟩
theorem line_eq : (sizeLine : Nat) = 16777216 := sizeLine_eq
theorem fmod_pos {i j : Int} (h : 0 < j) : i.fmod j = i % j := Int.fmod_eq_emod_of_nonneg i (by omega)
theorem fdiv_pos {i j : Int} (h : 0 < j) : i.fdiv j = i / j := Int.fdiv_eq_ediv_of_nonneg i (by omega)
theorem atI_ok {α : Type} {xs : List α} {i : Int} {v : α} (h0 : 0 ≤ i) (h : xs[i.toNat]? = some v) : L2.atI xs i = some v := by
  have e : ((i.toNat : Nat) : Int) = i := by omega
  rw [← e]
  exact L2.atI_nat h
/-! loops -/
theorem forM_nil (m : PyData → Evn → Option Evn) (body : Evn → RS) (ρ : Evn) : forM m body [] ρ = .ok (.nx, ρ) := rfl
theorem forM_cons (m : PyData → Evn → Option Evn) (body : Evn → RS) (d : PyData) (r : List PyData) (ρ : Evn) : forM m body (d :: r) ρ = (oS (m d ρ)).bind fun ρ1 => (body ρ1).bind fun p => match p.1 with
    | .nx => forM m body r p.2
    | .ct => forM m body r p.2
    | .bk => .ok (.nx, p.2)
    | .rt d => .ok (.rt d, p.2) := rfl
/-- a loop that goes on, by what holds between two turns -/
theorem forM_inv {m : PyData → Evn → Option Evn} {body : Evn → RS} (I : Nat → Evn → Prop) {ds : List PyData} {ρ : Evn} (h0 : I 0 ρ)
    (h : ∀ i d ρ, ds[i]? = some d → I i ρ → ∃ ρ1 ρ2, m d ρ = some ρ1 ∧ (body ρ1 = .ok (.nx, ρ2) ∨ body ρ1 = .ok (.ct, ρ2)) ∧ I (i + 1) ρ2) : ∃ ρ', forM m body ds ρ = .ok (.nx, ρ') ∧ I ds.length ρ' := by
  have key : ∀ (es : List PyData) (k : Nat) (ρ : Evn), k + es.length = ds.length → (∀ i, es[i]? = ds[k + i]?) → I k ρ → ∃ ρ', forM m body es ρ = .ok (.nx, ρ') ∧ I ds.length ρ' := by
    intro es
    induction es with
    | nil =>
      intro k ρ e _ hi
      simp only [List.length_nil, Nat.add_zero] at e
      subst e
      exact ⟨ρ, rfl, hi⟩
    | cons d r ih =>
      intro k ρ e he hi
      have h1 := he 0
      simp only [List.getElem?_cons_zero, Nat.add_zero] at h1
      obtain ⟨ρ1, ρ2, g1, g2, g3⟩ := h k d ρ h1.symm hi
      obtain ⟨ρ', g4, g5⟩ := ih (k + 1) ρ2 (by rw [List.length_cons] at e; omega) (fun i => by
        have := he (i + 1)
        simp only [List.getElem?_cons_succ] at this
        rw [this]
        congr 1
        omega) g3
      refine ⟨ρ', ?_, g5⟩
      rw [forM_cons, g1, oS_some, bind_ok]
      cases g2 with
      | inl g => rw [g, bind_ok]; exact g4
      | inr g => rw [g, bind_ok]; exact g4
  exact key ds 0 ρ (by omega) (fun i => by rw [Nat.zero_add]) h0
/-- a loop over what is made of a list, with a state -/
theorem forM_map {α : Type} {m : PyData → Evn → Option Evn} {body : Evn → RS} {dec : α → PyData} (I : List α → Evn → Prop) {xs : List α} {ρ : Evn} (h0 : I [] ρ)
    (h : ∀ pre x post ρ, xs = pre ++ x :: post → I pre ρ → ∃ ρ1 ρ2, m (dec x) ρ = some ρ1 ∧ (body ρ1 = .ok (.nx, ρ2) ∨ body ρ1 = .ok (.ct, ρ2)) ∧ I (pre ++ [x]) ρ2) : ∃ ρ', forM m body (xs.map dec) ρ = .ok (.nx, ρ') ∧ I xs ρ' := by
  have key : ∀ (es pre : List α) (ρ : Evn), xs = pre ++ es → I pre ρ → ∃ ρ', forM m body (es.map dec) ρ = .ok (.nx, ρ') ∧ I xs ρ' := by
    intro es
    induction es with
    | nil => intro pre ρ e hi; rw [List.append_nil] at e; subst e; exact ⟨ρ, rfl, hi⟩
    | cons x r ih =>
      intro pre ρ e hi
      obtain ⟨ρ1, ρ2, g1, g2, g3⟩ := h pre x r ρ e hi
      obtain ⟨ρ', g4, g5⟩ := ih (pre ++ [x]) ρ2 (by rw [e, List.append_assoc]; rfl) g3
      refine ⟨ρ', ?_, g5⟩
      rw [List.map_cons, forM_cons, g1, oS_some, bind_ok]
      cases g2 with
      | inl g => rw [g, bind_ok]; exact g4
      | inr g => rw [g, bind_ok]; exact g4
  exact key xs [] ρ rfl h0
theorem rangeL_get {lo : Int} {n i : Nat} {d : PyData} (h : (rangeL lo n)[i]? = some d) : i < n ∧ d = .int (lo + i) := by
  unfold rangeL at h
  rw [List.getElem?_map] at h
  by_cases hi : i < n
  · rw [List.getElem?_range hi] at h
    simp only [Option.map_some, Option.some.injEq] at h
    exact ⟨hi, h.symm⟩
  · rw [List.getElem?_eq_none (by rw [List.length_range]; omega)] at h
    cases h
/-- a loop over the whole numbers of a range -/
theorem forM_rng {m : PyData → Evn → Option Evn} {body : Evn → RS} {lo : Int} {n : Nat} (I : Nat → Evn → Prop) {ρ : Evn} (h0 : I 0 ρ)
    (h : ∀ i ρ, i < n → I i ρ → ∃ ρ1 ρ2, m (.int (lo + i)) ρ = some ρ1 ∧ (body ρ1 = .ok (.nx, ρ2) ∨ body ρ1 = .ok (.ct, ρ2)) ∧ I (i + 1) ρ2) : ∃ ρ', forM m body (rangeL lo n) ρ = .ok (.nx, ρ') ∧ I n ρ' := by
  have := forM_inv (m := m) (body := body) I (ds := rangeL lo n) h0 (fun i d ρ hd hi => by
    obtain ⟨h1, h2⟩ := rangeL_get hd
    subst h2
    exact h i ρ h1 hi)
  rw [rangeL_len] at this
  exact this
/-- a list made of a list -/
theorem lcM_map {α : Type} {m : PyData → Evn → Option Evn} {t : Evn → RE Bool} {e : Evn → RE PyData} {ρ : Evn} {dec : α → PyData} (p : α → Bool) (f : α → PyData) : ∀ {xs : List α},
    (∀ x ∈ xs, ∃ ρ1, m (dec x) ρ = some ρ1 ∧ t ρ1 = .ok (p x) ∧ (p x = true → e ρ1 = .ok (f x))) → lcM m t e ρ (xs.map dec) = .ok ((xs.filter p).map f)
  | [], _ => rfl
  | x :: r, h => by
    obtain ⟨ρ1, h1, h2, h3⟩ := h x (List.mem_cons_self ..)
    have ih := lcM_map p f (xs := r) (fun y hy => h y (List.mem_cons_of_mem _ hy))
    rw [List.map_cons]
    unfold lcM
    rw [h1, ofO_some, bind_ok, h2, nox_okk, bind_ok, ih]
    cases hp : p x with
    | true => rw [if_pos rfl, h3 hp, nox_okk, bind_ok, bind_ok, List.filter_cons_of_pos hp, List.map_cons]
    | false => rw [if_neg (by decide), List.filter_cons_of_neg (by rw [hp]; decide)]
/-- .. of each item -/
theorem lcM_all {α : Type} {m : PyData → Evn → Option Evn} {e : Evn → RE PyData} {ρ : Evn} {dec : α → PyData} (f : α → PyData) {xs : List α}
    (h : ∀ x ∈ xs, ∃ ρ1, m (dec x) ρ = some ρ1 ∧ e ρ1 = .ok (f x)) : lcM m mYes e ρ (xs.map dec) = .ok (xs.map f) := by
  have := lcM_map (m := m) (t := mYes) (e := e) (ρ := ρ) (dec := dec) (fun _ => true) f (xs := xs) (fun x hx => by
    obtain ⟨ρ1, h1, h2⟩ := h x hx
    exact ⟨ρ1, h1, rfl, fun _ => h2⟩)
  rw [this, List.filter_eq_self.mpr (fun _ _ => rfl)]
theorem lcM_rng {i : Nat} {e : Evn → RE PyData} {ρ : Evn} {n : Nat} (f : Nat → PyData) (h : ∀ k < n, e (stE ρ i (.val (.int k))) = .ok (f k)) : lcM (gN i) mYes e ρ (rangeL 0 n) = .ok ((List.range n).map f) := by
  unfold rangeL
  refine lcM_all (dec := fun (k : Nat) => PyData.int (0 + (k : Int))) f fun x hx => ⟨_, e_gN _ _ _, ?_⟩
  rw [Int.zero_add]
  exact h x (List.mem_range.mp hx)
theorem lcM_rngp {i : Nat} {t : Evn → RE Bool} {e : Evn → RE PyData} {ρ : Evn} {n : Nat} (p : Nat → Bool) (f : Nat → PyData) (ht : ∀ k < n, t (stE ρ i (.val (.int k))) = .ok (p k)) (h : ∀ k < n, p k = true → e (stE ρ i (.val (.int k))) = .ok (f k)) : lcM (gN i) t e ρ (rangeL 0 n) = .ok (((List.range n).filter p).map f) := by
  unfold rangeL
  refine lcM_map (dec := fun (k : Nat) => PyData.int (0 + (k : Int))) p f fun x hx => ⟨_, e_gN _ _ _, ?_, fun hp => ?_⟩
  · rw [Int.zero_add]; exact ht x (List.mem_range.mp hx)
  · rw [Int.zero_add]; exact h x (List.mem_range.mp hx) hp
/-! steps of a body -/
theorem fn_go {n N : Nat} {b : Evn → RS} {ds : List PyData} (h : ds.length = n) : fnM n N b ds = bodyOut (b (startE N ds)) := by rw [e_fnM, if_pos h]
theorem fn_ret {n N : Nat} {b : Evn → RS} {ds : List PyData} {ρ ρ' : Evn} {d : PyData} (h : ds.length = n) (e : startE N ds = ρ) (hb : b ρ = .ok (.rt d, ρ')) : fnM n N b ds = .ok d := by rw [fn_go h, e, hb]; rfl
theorem st_set {i : Nat} {f : Evn → RE PyData} {g : Evn → RS} {ρ : Evn} {d : PyData} (h : f ρ = .ok d) : sThen (sSet i f) g ρ = g (stE ρ i (.val d)) := by simp [h]
theorem st_setL {i : Nat} {f : Evn → RE (List PyData)} {g : Evn → RS} {ρ : Evn} {ds : List PyData} (h : f ρ = .ok ds) : sThen (sSetL i f) g ρ = g (stE ρ i (.val (.list ds))) := by simp [h]
theorem st_setO {i : Nat} {f : Evn → RE (List PyData)} {g : Evn → RS} {ρ : Evn} {ds : List PyData} (h : f ρ = .ok ds) : sThen (sSetO i f) g ρ = g (stE ρ i (.own ds)) := by simp [h]
theorem st_if {c : Evn → RE Bool} {a b g : Evn → RS} {ρ : Evn} {q : Bool} (h : c ρ = .ok q) : sThen (sIf c a b) g ρ = if q then sThen a g ρ else sThen b g ρ := by cases q <;> simp [h]
theorem st_no {c : Evn → RE Bool} {a g : Evn → RS} {ρ : Evn} (h : c ρ = .ok false) : sThen (sIf c a sNx) g ρ = g ρ := by simp [h]
theorem st_yes {c : Evn → RE Bool} {f : Evn → RE PyData} {b g : Evn → RS} {ρ : Evn} {d : PyData} (h : c ρ = .ok true) (hf : f ρ = .ok d) : sThen (sIf c (sRet f) b) g ρ = .ok (.rt d, ρ) := by simp [h, hf]
theorem st_nx {f g : Evn → RS} {ρ ρ' : Evn} (h : f ρ = .ok (.nx, ρ')) : sThen f g ρ = g ρ' := by simp [h]
theorem st_ret {f : Evn → RE PyData} {ρ : Evn} {d : PyData} (h : f ρ = .ok d) : sRet f ρ = .ok (.rt d, ρ) := by simp [h]
/-! whole numbers in lists -/
abbrev li (ns : List Int) : PyData := .list (ns.map .int)
theorem atI_li {ns : List Int} {i : Int} (h0 : 0 ≤ i) (h1 : i < ns.length) : L2.atI (ns.map PyData.int) i = some (.int (ns.getD i.toNat 0)) := by
  refine atI_ok h0 ?_
  rw [List.getElem?_map, List.getElem?_eq_getElem (by omega), Option.map_some, List.getD_eq_getElem?_getD, List.getElem?_eq_getElem (by omega), Option.getD_some]

/-! kinds -/
@[simp] theorem ty_li_none : isTy Ty.list .none = false := nr rfl
@[simp] theorem ty_li_bool (b : Bool) : isTy Ty.list (.bool b) = false := nr rfl
@[simp] theorem ty_li_int (i : Int) : isTy Ty.list (.int i) = false := nr rfl
@[simp] theorem ty_li_str (x : Str) : isTy Ty.list (.str x) = false := nr rfl
@[simp] theorem ty_li_list (xs : List PyData) : isTy Ty.list (.list xs) = true := nr rfl
@[simp] theorem ty_li_tuple (xs : List PyData) : isTy Ty.list (.tuple xs) = false := nr rfl
@[simp] theorem ty_tu_none : isTy Ty.tuple .none = false := nr rfl
@[simp] theorem ty_tu_bool (b : Bool) : isTy Ty.tuple (.bool b) = false := nr rfl
@[simp] theorem ty_tu_int (i : Int) : isTy Ty.tuple (.int i) = false := nr rfl
@[simp] theorem ty_tu_str (x : Str) : isTy Ty.tuple (.str x) = false := nr rfl
@[simp] theorem ty_tu_list (xs : List PyData) : isTy Ty.tuple (.list xs) = false := nr rfl
@[simp] theorem ty_tu_tuple (xs : List PyData) : isTy Ty.tuple (.tuple xs) = true := nr rfl
@[simp] theorem ty_bo_none : isTy Ty.bool .none = false := nr rfl
@[simp] theorem ty_bo_bool (b : Bool) : isTy Ty.bool (.bool b) = true := nr rfl
@[simp] theorem ty_bo_int (i : Int) : isTy Ty.bool (.int i) = false := nr rfl
@[simp] theorem ty_bo_str (x : Str) : isTy Ty.bool (.str x) = false := nr rfl
@[simp] theorem ty_bo_list (xs : List PyData) : isTy Ty.bool (.list xs) = false := nr rfl
@[simp] theorem ty_bo_tuple (xs : List PyData) : isTy Ty.bool (.tuple xs) = false := nr rfl
@[simp] theorem ty_in_none : isTy Ty.int .none = false := nr rfl
@[simp] theorem ty_in_bool (b : Bool) : isTy Ty.int (.bool b) = true := nr rfl
@[simp] theorem ty_in_int (i : Int) : isTy Ty.int (.int i) = true := nr rfl
@[simp] theorem ty_in_str (x : Str) : isTy Ty.int (.str x) = false := nr rfl
@[simp] theorem ty_in_list (xs : List PyData) : isTy Ty.int (.list xs) = false := nr rfl
@[simp] theorem ty_in_tuple (xs : List PyData) : isTy Ty.int (.tuple xs) = false := nr rfl
@[simp] theorem ty_st_none : isTy Ty.str .none = false := nr rfl
@[simp] theorem ty_st_bool (b : Bool) : isTy Ty.str (.bool b) = false := nr rfl
@[simp] theorem ty_st_int (i : Int) : isTy Ty.str (.int i) = false := nr rfl
@[simp] theorem ty_st_str (x : Str) : isTy Ty.str (.str x) = true := nr rfl
@[simp] theorem ty_st_list (xs : List PyData) : isTy Ty.str (.list xs) = false := nr rfl
@[simp] theorem ty_st_tuple (xs : List PyData) : isTy Ty.str (.tuple xs) = false := nr rfl
/-! likeness of data that have a type -/
open PySem.W in
theorem eq_dat {α : Type} [DecidableEq α] [Datum α] (hd : Datum.depth α ≤ 64) (a b : α) : pEq (Datum.toD a) (Datum.toD b) = some (.bool (decide (a = b))) := by
  unfold pEq
  rw [if_pos (show eqOk _ _ from Or.inl (Nat.le_trans (Datum.depth_le a) hd)), Datum.eqv]
open PySem.W in
theorem ne_dat {α : Type} [DecidableEq α] [Datum α] (hd : Datum.depth α ≤ 64) (a b : α) : pNe (Datum.toD a) (Datum.toD b) = some (.bool (decide (a ≠ b))) := by
  unfold pNe
  rw [if_pos (show eqOk _ _ from Or.inl (Nat.le_trans (Datum.depth_le a) hd)), Datum.eqv]
  by_cases h : a = b <;> simp [h]
@[simp] theorem eq_int (i j : Int) : pEq (.int i) (.int j) = some (.bool (decide (i = j))) := eq_dat (α := Int) (by decide) i j
@[simp] theorem ne_int (i j : Int) : pNe (.int i) (.int j) = some (.bool (decide (i ≠ j))) := ne_dat (α := Int) (by decide) i j
@[simp] theorem eq_bl (i j : Bool) : pEq (.bool i) (.bool j) = some (.bool (decide (i = j))) := eq_dat (α := Bool) (by decide) i j
@[simp] theorem ne_bl (i j : Bool) : pNe (.bool i) (.bool j) = some (.bool (decide (i ≠ j))) := ne_dat (α := Bool) (by decide) i j
@[simp] theorem eq_st (i j : Str) : pEq (.str i) (.str j) = some (.bool (decide (i = j))) := eq_dat (α := Str) (by decide) i j
@[simp] theorem ne_st (i j : Str) : pNe (.str i) (.str j) = some (.bool (decide (i ≠ j))) := ne_dat (α := Str) (by decide) i j
@[simp] theorem eq_li (i j : List Int) : pEq (.list (i.map .int)) (.list (j.map .int)) = some (.bool (decide (i = j))) := eq_dat (α := List Int) (by decide) i j
@[simp] theorem ne_li (i j : List Int) : pNe (.list (i.map .int)) (.list (j.map .int)) = some (.bool (decide (i ≠ j))) := ne_dat (α := List Int) (by decide) i j
/-- data without dicts, not deep -/
def plainD : Nat → PyData → Prop
  | 0, _ => False
  | _ + 1, .none => True
  | _ + 1, .bool _ => True
  | _ + 1, .int _ => True
  | _ + 1, .str _ => True
  | k + 1, .list xs => xs.length < 2 ^ 62 ∧ ∀ x ∈ xs, plainD k x
  | k + 1, .tuple xs => xs.length < 2 ^ 62 ∧ ∀ x ∈ xs, plainD k x
  | _ + 1, .dict _ => False
theorem plain_li {k : Nat} {ns : List Int} (h : ns.length < 2 ^ 62) : plainD (k + 2) (li ns) := ⟨by rw [List.length_map]; exact h, fun x hx => by
  obtain ⟨i, _, rfl⟩ := List.mem_map.mp hx
  trivial⟩

/-! lists of whole numbers made by comprehensions -/
theorem lcM_rngI {i : Nat} {e : Evn → RE PyData} {ρ : Evn} {n : Nat} (g : Nat → Int) (h : ∀ k < n, e (stE ρ i (.val (.int k))) = .ok (.int (g k))) : lcM (gN i) mYes e ρ (rangeL 0 n) = .ok (((List.range n).map g).map .int) := by
  rw [lcM_rng (fun k => .int (g k)) h, List.map_map]; rfl
theorem lcM_rngpI {i : Nat} {t : Evn → RE Bool} {e : Evn → RE PyData} {ρ : Evn} {n : Nat} (p : Nat → Bool) (g : Nat → Int) (ht : ∀ k < n, t (stE ρ i (.val (.int k))) = .ok (p k)) (h : ∀ k < n, p k = true → e (stE ρ i (.val (.int k))) = .ok (.int (g k))) : lcM (gN i) t e ρ (rangeL 0 n) = .ok ((((List.range n).filter p).map g).map .int) := by
  rw [lcM_rngp p (fun k => .int (g k)) ht h, List.map_map]; rfl
theorem lcM_liI {i : Nat} {e : Evn → RE PyData} {ρ : Evn} {ns : List Int} (g : Int → Int) (h : ∀ k ∈ ns, e (stE ρ i (.val (.int k))) = .ok (.int (g k))) : lcM (gN i) mYes e ρ (ns.map .int) = .ok ((ns.map g).map .int) := by
  rw [lcM_all (fun k => .int (g k)) (fun x hx => ⟨_, e_gN _ _ _, h x hx⟩), List.map_map]; rfl
theorem lcM_lip {i : Nat} {t : Evn → RE Bool} {e : Evn → RE PyData} {ρ : Evn} {ns : List Int} (p : Int → Bool) (f : Int → PyData) (ht : ∀ k ∈ ns, t (stE ρ i (.val (.int k))) = .ok (p k)) (h : ∀ k ∈ ns, p k = true → e (stE ρ i (.val (.int k))) = .ok (f k)) : lcM (gN i) t e ρ (ns.map .int) = .ok ((ns.filter p).map f) :=
  lcM_map p f fun x hx => ⟨_, e_gN _ _ _, ht x hx, h x hx⟩
theorem getD_rng {g : Nat → Int} {n i : Nat} {d : Int} (h : i < n) : ((List.range n).map g).getD i d = g i := by
  rw [List.getD_eq_getElem?_getD, List.getElem?_map, List.getElem?_range h]; rfl
theorem set_rng {α : Type} (g : Nat → α) (n j : Nat) (v : α) : ((List.range n).map g).set j v = (List.range n).map fun q => if q = j then v else g q := by
  apply List.ext_getElem?
  intro i
  rw [List.getElem?_set, List.getElem?_map, List.getElem?_map, List.length_map, List.length_range]
  by_cases h : j = i
  · subst h
    by_cases hj : j < n
    · rw [List.getElem?_range hj]; simp [hj]
    · rw [List.getElem?_eq_none (by rw [List.length_range]; omega)]; simp [hj]
  · rw [if_neg h]
    by_cases hi : i < n
    · rw [List.getElem?_range hi]; simp [Ne.symm h]
    · rw [List.getElem?_eq_none (by rw [List.length_range]; omega)]; rfl
theorem map_set_int (ns : List Int) (j : Nat) (v : Int) : (ns.map PyData.int).set j (.int v) = (ns.set j v).map .int := by rw [List.map_set]
theorem rep_rng (n : Nat) (v : Int) : (List.replicate n [PyData.int v]).flatten = ((List.range n).map fun _ => v).map .int := by
  induction n with
  | zero => rfl
  | succ n ih => rw [List.replicate_succ', List.flatten_append, ih, List.range_succ, List.map_append, List.map_append]; rfl
theorem ixN_ok {n : Nat} {i : Int} (h0 : 0 ≤ i) (h : i < n) : L2.ixN n i = some i.toNat := by
  unfold L2.ixN
  rw [if_pos h0, if_pos h]

/-! places in lists that are written out -/
@[simp] theorem at_0 {α : Type} (x : α) (r : List α) : L2.atI (x :: r) 0 = some x := atI_ok (by decide) rfl
@[simp] theorem at_1 {α : Type} (x y : α) (r : List α) : L2.atI (x :: y :: r) 1 = some y := atI_ok (by decide) rfl
@[simp] theorem at_2 {α : Type} (x y z : α) (r : List α) : L2.atI (x :: y :: z :: r) 2 = some z := atI_ok (by decide) rfl
@[simp] theorem at_3 {α : Type} (x y z u : α) (r : List α) : L2.atI (x :: y :: z :: u :: r) 3 = some u := atI_ok (by decide) rfl
@[simp] theorem at_4 {α : Type} (x y z u v : α) (r : List α) : L2.atI (x :: y :: z :: u :: v :: r) 4 = some v := atI_ok (by decide) rfl
@[simp] theorem at_5 {α : Type} (x y z u v w : α) (r : List α) : L2.atI (x :: y :: z :: u :: v :: w :: r) 5 = some w := atI_ok (by decide) rfl
open PySem.W in
theorem in_dat {α : Type} [DecidableEq α] [Datum α] (hd : Datum.depth α ≤ 60) (x : α) (xs : List α) : pIn (Datum.toD x) (.list (xs.map Datum.toD)) = some (.bool (decide (x ∈ xs))) := by
  have h : inOk (Datum.toD x) (xs.map Datum.toD) := Or.inl (Nat.le_trans (Datum.depth_le x) hd)
  have e : pIn (Datum.toD x) (.list (xs.map Datum.toD)) = if inOk (Datum.toD x) (xs.map Datum.toD) then some (.bool (inD (Datum.toD x) (xs.map Datum.toD))) else none := by
    cases Datum.toD x <;> rfl
  rw [e, if_pos h]
  unfold inD
  rw [any_datum]
open PySem.W in
theorem notin_dat {α : Type} [DecidableEq α] [Datum α] (hd : Datum.depth α ≤ 60) (x : α) (xs : List α) : pNotIn (Datum.toD x) (.list (xs.map Datum.toD)) = some (.bool (!decide (x ∈ xs))) := by
  have h : inOk (Datum.toD x) (xs.map Datum.toD) := Or.inl (Nat.le_trans (Datum.depth_le x) hd)
  have e : pNotIn (Datum.toD x) (.list (xs.map Datum.toD)) = if inOk (Datum.toD x) (xs.map Datum.toD) then some (.bool (!inD (Datum.toD x) (xs.map Datum.toD))) else none := by
    cases Datum.toD x <;> rfl
  rw [e, if_pos h]
  unfold inD
  rw [any_datum]
@[simp] theorem in_li (i : Int) (ns : List Int) : pIn (.int i) (.list (ns.map .int)) = some (.bool (decide (i ∈ ns))) := in_dat (α := Int) (by decide) i ns
@[simp] theorem notin_li (i : Int) (ns : List Int) : pNotIn (.int i) (.list (ns.map .int)) = some (.bool (!decide (i ∈ ns))) := notin_dat (α := Int) (by decide) i ns

/-! slices -/
theorem sIx_nn {n d : Nat} {i : Int} (h : 0 ≤ i) : HT.sIx n d (some i) = min i.toNat n := by
  show (if i < 0 then (i + (n : Int)).toNat else min i.toNat n) = min i.toNat n
  rw [if_neg (by omega)]
theorem take_min {α : Type} (xs : List α) (k m : Nat) (h : xs.length ≤ m) : xs.take (min k m) = xs.take k := by
  by_cases hk : k ≤ m
  · rw [Nat.min_eq_left hk]
  · rw [Nat.min_eq_right (by omega), List.take_of_length_le h, List.take_of_length_le (by omega)]
theorem cut_nn {α : Type} (xs : List α) {lo hi : Int} (h0 : 0 ≤ lo) (h1 : 0 ≤ hi) : cutA xs (some lo) (some hi) = (xs.drop lo.toNat).take (hi.toNat - lo.toNat) := by
  unfold cutA
  rw [sIx_nn h0, sIx_nn h1]
  by_cases h : lo.toNat ≤ xs.length
  · rw [Nat.min_eq_left h]
    by_cases h2 : hi.toNat ≤ xs.length
    · rw [Nat.min_eq_left h2]
    · rw [Nat.min_eq_right (show xs.length ≤ hi.toNat by omega), List.take_of_length_le (by rw [List.length_drop]; omega), List.take_of_length_le (by rw [List.length_drop]; omega)]
  · rw [Nat.min_eq_right (show xs.length ≤ lo.toNat by omega), List.drop_of_length_le (Nat.le_refl _), List.drop_of_length_le (by omega), List.take_nil, List.take_nil]
theorem cut_xn {α : Type} (xs : List α) {hi : Int} (h1 : 0 ≤ hi) : cutA xs none (some hi) = xs.take hi.toNat := by
  unfold cutA
  rw [HT.sIx_none, sIx_nn h1, List.drop_zero, Nat.sub_zero, take_min _ _ _ (Nat.le_refl _)]
theorem cut_nx {α : Type} (xs : List α) {lo : Int} (h0 : 0 ≤ lo) : cutA xs (some lo) none = xs.drop lo.toNat := by
  unfold cutA
  rw [HT.sIx_none, sIx_nn h0]
  by_cases h : lo.toNat ≤ xs.length
  · rw [Nat.min_eq_left h, List.take_of_length_le (by rw [List.length_drop]; exact Nat.le_refl _)]
  · rw [Nat.min_eq_right (show xs.length ≤ lo.toNat by omega), List.drop_of_length_le (Nat.le_refl _), List.drop_of_length_le (by omega), List.take_nil]
theorem cut_xx {α : Type} (xs : List α) : cutA xs none none = xs := by
  unfold cutA
  rw [HT.sIx_none, HT.sIx_none, List.drop_zero, Nat.sub_zero, List.take_length]

theorem atI_rng {α : Type} {f : Nat → α} {n k : Nat} (h : k < n) : L2.atI ((List.range n).map f) (k : Int) = some (f k) := atI_ok (by omega) (by rw [Int.toNat_natCast, List.getElem?_map, List.getElem?_range h]; rfl)
theorem atI_rngI {g : Nat → Int} {n k : Nat} (h : k < n) : L2.atI (((List.range n).map g).map PyData.int) (k : Int) = some (.int (g k)) := by rw [List.map_map]; exact atI_rng h
theorem atI_liN {ns : List Int} {k : Nat} (h1 : k < ns.length) : L2.atI (ns.map PyData.int) (k : Int) = some (.int (ns.getD k 0)) := by rw [atI_li (by omega) (by omega), Int.toNat_natCast]
end PV
end
section
set_option Elab.async false
set_option linter.all false
set_option maxRecDepth 100000
set_option maxHeartbeats 4000000
namespace PV
open PySem PySem.Spec PySem.Calls PyProof.Rows L2

/-! ### except clauses that name the error, as many as there are -/
/-- where such a suite leads: its name is gone -/
abbrev gonE (i : Nat) (D : Ends) : Ends := { nx := fun σ1 H1 => D.nx (σ1.set i none) H1, rt := D.rt, bk := fun σ1 H1 => D.bk (σ1.set i none) H1, ct := fun σ1 H1 => D.ct (σ1.set i none) H1 }
abbrev Hnd := Value × Nat × (Addr → Value → Option Addr → TS)
def wHs (K : PySem.W.Frag) (Wo : WX) (D : Ends) : List Hnd → WX
  | [] => Wo
  | (c, i, ts) :: r => fun q d σ H => ∃ b, PySem.W.exmOne K q c = some b ∧ (b = true → ∀ a, H a = none → ts a q d (gonE i D) (σ.set i (some (.ref a))) H) ∧ (b = false → wHs K Wo D r q d σ H)
inductive HsOk (X : Cx) : List ExceptHandler → List Hnd → Prop
  | nil : HsOk X [] []
  | cons {x n : Str} {c : Value} {i : Nat} {ts : Addr → Value → Option Addr → TS} {b0 : Stmt} {sts : List Stmt} {p1 p2 : Pos} {es : List ExceptHandler} {l : List Hnd} (hc : Names X x c) (hi : X.N[i]? = some n) (hl : X.env.kindOf n = some .local)
      (hsu : ∀ (a : Addr) (o : Obj) (q : Value) (d : Option Addr) (pn : List (Addr × Obj)), Zc q d o → (∃ vs, o.data = .fields vs) → PSs (X.suite a ((a, o) :: pn)) (b0 :: sts) (ts a q d)) (r : HsOk X es l) :
      HsOk X (.ExceptHandler (some (.Name x p1)) (some n) (b0 :: sts) p2 :: es) ((c, i, ts) :: l)
section
variable {X : Cx} {body : List Stmt} {e0 : ExceptHandler} {es : List ExceptHandler} {l : List Hnd} {pos : Pos} {tb : WX → TS} {Wo : WX}
theorem ps_tryN (h1 : X.stack = X.env :: X.outer) (h2 : X.env.frame = some X.env.locals) (nd : X.N.Nodup) (tk : Takes X Wo)
    (hb : ∀ (W : WX) (pn : List (Addr × Obj)) (xe : Value → Shared → Prop), Takes (X.tr pn xe) W → PassesOwn (model X.prog X.w) X.A X.env xe → PSs (X.tr pn xe) body (tb W))
    (hh : HsOk X (e0 :: es) l) : PS X (.Try body (e0 :: es) [] [] pos) (fun D σ H => tb (wHs X.K Wo D l) D σ H) := by
  refine ⟨fun pn0 s0 σ0 H0 D0 J0 q0 => ?_⟩
  have okX := J0.ok
  have frX : X.A.frames = some (X.env :: X.outer) := by rw [okX.frames, h1]
  refine wpAny_Try_except ?_
  have run := (hb (wHs X.K Wo D0 l) (X.pn ++ pn0) (fun u s₁ => wpAny (model X.prog X.w) X.A (noteFrame u X.env) (fun _ s₂ => wpAny (model X.prog X.w) X.A (setFlight u none) (fun _ s₃ =>
    wpAny (model X.prog X.w) X.A (handleBy u X.env (e0 :: es)) (SP X pn0 D0) X.xe s₃) X.xe s₂) X.xe s₁) (fun u s1 xx => ?_) PassesOwn.looking).run [] s0 σ0 H0 D0 (J0.toTry _) q0
  · refine wpAny_mono run (fun fl s1 out => ?_) (fun _ _ z => z)
    cases fl with
    | next =>
      obtain ⟨σ1, H1, J1, w1⟩ := out
      exact wpAny_execs_nil ⟨σ1, H1, J1.ofTry okX, w1⟩
    | brk =>
      obtain ⟨σ1, H1, J1, w1⟩ := out
      exact ⟨σ1, H1, J1.ofTry okX, w1⟩
    | cont =>
      obtain ⟨σ1, H1, J1, w1⟩ := out
      exact ⟨σ1, H1, J1.ofTry okX, w1⟩
    | ret u =>
      obtain ⟨v1, σ1, H1, J1, r1, w1⟩ := out
      exact ⟨v1, σ1, H1, J1.ofTry okX, r1, w1⟩
  · obtain ⟨a, B, sI, pn1, σ1, H1, q, d, rfl, J1, nb, up, sk, na, eo, ag, wz⟩ := xx
    have J2 : Inv X pn0 σ1 H1 sI := J1.ofTry okX
    have sk2 : Sky B (X.env :: X.outer) a (Zc q d) X.env.locals s1.heap := by rw [← h1]; exact sk
    show wpAny (model X.prog X.w) X.A (noteFrame (.ref a) X.env) _ _ _
    refine Sky.land Zc.steady frX h2 sk2 fun g3 f3 u3 => ?_
    have J3 : Inv X pn0 σ1 H1 { s1 with heap := g3 } := J2.landed nb f3.1 (up.trans u3) eo ag
    obtain ⟨o3, v3, y3, z3, d3⟩ := f3.there
    have off : a ∉ frs (X.env :: X.outer) := fun hm => by
      obtain ⟨_, o', e', hnf⟩ := f3.2.2.1.mem hm
      rw [y3] at e'
      cases e'
      exact hnf _ d3
    have offL : a ≠ X.env.locals := fun z => off (List.mem_filterMap.mpr ⟨X.env, List.mem_cons_self, by rw [h2, z]⟩)
    have offF : a ∉ X.fs := fun hm => by
      obtain ⟨v, hv, w⟩ := List.mem_filterMap.mp hm
      exact off (List.mem_filterMap.mpr ⟨v, List.mem_cons_of_mem _ hv, w⟩)
    have S3 := J3.suite y3 d3 na offL offF
    have ty : PySem.W.Looks (model X.prog X.w) g3 (typeOf (.ref a)) q := fun _ _ _ _ k w => wpAny_typeOf_ref (k _ _ y3) (by rw [z3.1]; exact w)
    have go : ∀ {es' : List ExceptHandler} {l' : List Hnd}, HsOk X es' l' → wHs X.K Wo D0 l' q d σ1 H1 → wpAny (model X.prog X.w) X.A (handleBy (.ref a) X.env es') (SP X pn0 D0) X.xe { s1 with heap := g3 } := by
      intro es' l' hk
      induction hk with
      | nil =>
        intro wo
        refine wpAny_handleBy_nil ?_
        obtain ⟨k1, k2, k3, oe, vs, T, oT, ts', he, hz, hd, hT, hr⟩ := id f3
        unfold PySem.passOn
        refine wpAny_bind (wpAny_field he hd hT ?_)
        rw [if_neg (show ¬ ((Value.ref T == Value.none) = true) from by simp)]
        have last : wpAny (model X.prog X.w) X.A (setFlight (.ref a) X.env.frame) (fun _ s4 => wpAny (model X.prog X.w) X.A (throw (.ref a) : Sem Flow) (SP X pn0 D0) X.xe s4) X.xe { s1 with heap := g3 } := by
          rw [h2]
          refine HandSPX.setFlight_upZ f3 fun g4 y4 u4 => wpAny_throw (tk _ _ ?_)
          exact ⟨a, B, sI, pn0, σ1, H1, q, d, rfl, J2, nb, (up.trans u3).trans u4, .inr (.inr (by rw [h1]; exact y4)), na, eo, ag, wo⟩
        first
          | exact wpAny_bind (wpAny_pure (wpAny_bind last))
          | exact wpAny_bind last
      | @cons x n c i ts b0 sts p1 p2 es2 l2 hc hi hl hsu r ih =>
        intro wo
        obtain ⟨b, w1, w2, w3⟩ := wo
        refine wpAny_handleBy_cons (codeAny_handlers_test ?_) (by intro z; cases z)
        have mt := PySem.W.exm_one (M := model X.prog X.w) (J3.kIn) ty w1
        have name : ∀ {Q E : Value → Shared → Prop}, Q c { s1 with heap := g3 } → wpAny (model X.prog X.w) (X.A.mark (some (.ref a))) (eval (.Name x p1) X.env) Q E { s1 with heap := g3 } := fun {Q E} w => by
          obtain ⟨hg, hdb, hm | ⟨hm, hv, hnn⟩⟩ := hc
          · exact ld_glob (X := X.suite a ((a, o3) :: (X.pn ++ pn0))) S3 hg hm w hdb
          · exact ld_blt (X := X.suite a ((a, o3) :: (X.pn ++ pn0))) S3 hg hm hv w hnn hdb
        refine name (mt.here ?_)
        cases b with
        | false =>
          show wpAny _ X.A (handleBy (.ref a) X.env es2) _ _ _
          exact ih (w3 rfl)
        | true =>
          refine codeAny_handlers_suite_as ?_
          refine HandSPX.lands_againZ f3 fun g4 f4 u4 => ?_
          have J4 : Inv X pn0 σ1 H1 { s1 with heap := g4 } := J2.landed nb f4.1 ((up.trans u3).trans u4) eo ag
          obtain ⟨o4, v4, y4, z4, d4⟩ := f4.there
          have S4 := J4.suite y4 d4 na offL offF
          refine store_ok (X := X.suite a ((a, o4) :: (X.pn ++ pn0))) (v := .ref a) S4 nd hi (.inl hl) rfl (fun s5 S5 => ?_) (.inr hl)
          refine wpAny_mono ((hsu a o4 q d (X.pn ++ pn0) z4 ⟨_, d4⟩).run [] s5 _ H1 _ S5 (w2 rfl a na)) (fun fl s6 out => ?_) (fun _ _ z => z.elim)
          have fin : ∀ {σ6 : L2.St} {H6 : Hp} {Q : Shared → Prop}, Inv (X.suite a ((a, o4) :: (X.pn ++ pn0))) [] σ6 H6 s6 → (∀ s7, Inv X pn0 (σ6.set i none) H6 s7 → Q s7) →
              wpAny (model X.prog X.w) X.A (do bindName X.env n .none; unbindBehindTheSuite X.env n p2) (fun _ s7 => Q s7) X.xe s6 := fun {σ6 H6 Q} S6 w => gone_ok (S6.unsuite okX) nd hi hl w
          cases fl with
          | next =>
            obtain ⟨σ6, H6, S6, w6⟩ := out
            exact fin S6 fun s7 J7 => ⟨_, _, J7, w6⟩
          | brk =>
            obtain ⟨σ6, H6, S6, w6⟩ := out
            exact fin S6 fun s7 J7 => ⟨_, _, J7, w6⟩
          | cont =>
            obtain ⟨σ6, H6, S6, w6⟩ := out
            exact fin S6 fun s7 J7 => ⟨_, _, J7, w6⟩
          | ret u =>
            obtain ⟨v6, σ6, H6, S6, r6, w6⟩ := out
            exact fin S6 fun s7 J7 => ⟨_, _, _, J7, r6, w6⟩
    exact go hh wz
end

/-! ### .. as a meaning -/
/-- no error is held any more -/
def dropX : Evn → Evn
  | [] => []
  | some (.exn _) :: r => none :: dropX r
  | some (.val d) :: r => some (.val d) :: dropX r
  | some (.own ds) :: r => some (.own ds) :: dropX r
  | none :: r => none :: dropX r
theorem dropX_len : ∀ ρ : Evn, (dropX ρ).length = ρ.length
  | [] => rfl
  | none :: r => congrArg (· + 1) (dropX_len r)
  | some (.val _) :: r => congrArg (· + 1) (dropX_len r)
  | some (.own _) :: r => congrArg (· + 1) (dropX_len r)
  | some (.exn _) :: r => congrArg (· + 1) (dropX_len r)
theorem dropX_get : ∀ (ρ : Evn) (i : Nat) (c : Cel), (dropX ρ)[i]? = some (some c) → ρ[i]? = some (some c) ∧ ∀ x, c ≠ .exn x
  | [], _, _, h => by cases h
  | none :: r, 0, _, h => by cases h
  | some (.exn _) :: r, 0, _, h => by cases h
  | some (.val d) :: r, 0, _, h => by cases h; exact ⟨rfl, fun _ e => by cases e⟩
  | some (.own d) :: r, 0, _, h => by cases h; exact ⟨rfl, fun _ e => by cases e⟩
  | none :: r, n + 1, c, h => dropX_get r n c h
  | some (.exn _) :: r, n + 1, c, h => dropX_get r n c h
  | some (.val _) :: r, n + 1, c, h => dropX_get r n c h
  | some (.own _) :: r, n + 1, c, h => dropX_get r n c h
def endX (i : Nat) : RS → RS
  | .ok (fl, ρ) => .ok (fl, (dropX ρ).set i none)
  | _ => .bad
/-- the clause that takes an error of class c -/
def catchM (sub : Str → Str → Bool) : List (Str × Nat × (Evn → RS)) → Str → Evn → RS
  | [], c, ρ => .exc c ρ
  | (h, i, fs) :: r, c, ρ => if sub c h then (if i < ρ.length then endX i (fs (ρ.set i (some (.exn c)))) else .bad) else catchM sub r c ρ
def sTry (L : List Str) (sub : Str → Str → Bool) (hs : List (Str × Nat × (Evn → RS))) (fb : Evn → RS) (ρ : Evn) : RS := match fb ρ with
  | .ok p => .ok p
  | .exc c ρ' => if c ∈ L then catchM sub hs c ρ' else .bad
  | .bad => .bad
/-- the suite's own Pm -/
abbrev Pm.inX (P : Pm) (a : Addr) (c : Str) : Pm := ⟨P.B, P.F0, fun _ _ _ _ => False, some (a, c)⟩
abbrev Pm.wi (P : Pm) (W : WX) : Pm := ⟨P.B, P.F0, W, P.E⟩
theorem Rep.inX {K : PySem.W.Frag} {P : Pm} {ρ : Evn} {F H : Hp} {σ : Sg} {i : Nat} {a : Addr} {c : Str} (hE : P.E = none) (r : Rep K P ρ F σ H) (hi : i < ρ.length) : Rep K (P.inX a c) (ρ.set i (some (.exn c))) F (σ.set i (some (.ref a))) H := by
  refine ⟨by rw [List.length_set, List.length_set]; exact r.len, r.ext, fun j x q => ?_, fun j k b ds es n q1 q2 q3 => ?_⟩
  · by_cases e : i = j
    · subst e
      rw [List.getElem?_set_self hi] at q
      cases q
      exact ⟨.ref a, by rw [List.getElem?_set_self (by rw [← r.len]; exact hi)], a, rfl, rfl⟩
    · rw [List.getElem?_set_ne e] at q
      obtain ⟨v, h1, h2⟩ := r.slot j x q
      refine ⟨v, by rw [List.getElem?_set_ne e]; exact h1, ?_⟩
      cases x with
      | val d => exact h2
      | own ds => exact h2
      | exn y =>
        obtain ⟨b, e1, _⟩ := h2
        rw [hE] at e1
        cases e1
  · have n1 : i ≠ j := fun e => by subst e; rw [List.getElem?_set_self hi] at q1; cases q1
    have n2 : i ≠ k := fun e => by subst e; rw [List.getElem?_set_self hi] at q2; cases q2
    rw [List.getElem?_set_ne n1] at q1 q3
    rw [List.getElem?_set_ne n2] at q2
    rw [List.getElem?_set_ne n2]
    exact r.sep j k b ds es n q1 q2 q3
theorem Rep.outX {K : PySem.W.Frag} {P : Pm} {ρ : Evn} {F H : Hp} {σ : Sg} {i : Nat} {a : Addr} {c : Str} (r : Rep K (P.inX a c) ρ F σ H) : Rep K P (dropX ρ) F σ H := by
  refine ⟨by rw [dropX_len]; exact r.len, r.ext, fun j x q => ?_, fun j k b ds es n q1 q2 q3 => ?_⟩
  · obtain ⟨q1, q2⟩ := dropX_get ρ j x q
    obtain ⟨v, h1, h2⟩ := r.slot j x q1
    refine ⟨v, h1, ?_⟩
    cases x with
    | val d => exact h2
    | own ds => exact h2
    | exn y => exact absurd rfl (q2 y)
  · exact r.sep j k b ds es n (dropX_get ρ j _ q1).1 (dropX_get ρ k _ q2).1 q3
theorem Rep.wi {K : PySem.W.Frag} {P : Pm} {W : WX} {ρ : Evn} {F H : Hp} {σ : Sg} : Rep K (P.wi W) ρ F σ H ↔ Rep K P ρ F σ H :=
  ⟨fun r => ⟨r.len, r.ext, r.slot, r.sep⟩, fun r => ⟨r.len, r.ext, r.slot, r.sep⟩⟩
/-- what a clause's suite does -/
def tsX (X : Cx) (P : Pm) (L : List Str) (fs : Evn → RS) : Addr → Value → Option Addr → TS := fun a q d D σ H => ∃ c C ρ F, c ∈ L ∧ q = .ref C ∧ d = none ∧ X.mg c = some (.ref C) ∧ Rep X.K (P.inX a c) ρ F σ H ∧ OutS X (P.inX a c) D F (fs ρ)
/-- the clauses -/
inductive HV (X : Cx) (P : Pm) (L : List Str) (sub : Str → Str → Bool) : List ExceptHandler → List (Str × Nat × (Evn → RS)) → List Hnd → Prop
  | nil : HV X P L sub [] [] []
  | cons {x n : Str} {cv : Value} {i : Nat} {fs : Evn → RS} {b0 : Stmt} {sts : List Stmt} {p1 p2 : Pos} {es : List ExceptHandler} {hs : List (Str × Nat × (Evn → RS))} {l : List Hnd} (hc : Names X x cv) (hi : X.N[i]? = some n) (hl : X.env.kindOf n = some .local)
      (hx : ∀ c C, c ∈ L → X.mg c = some (.ref C) → PySem.W.exmOne X.K (.ref C) cv = some (sub c x))
      (hsu : ∀ (a : Addr) (o : Obj) (c : Str) (C : Addr) (pn : List (Addr × Obj)), c ∈ L → X.mg c = some (.ref C) → Zc (.ref C) none o → (∃ vs, o.data = .fields vs) → VSs (X.suite a ((a, o) :: pn)) (P.inX a c) (b0 :: sts) fs) (r : HV X P L sub es hs l) :
      HV X P L sub (.ExceptHandler (some (.Name x p1)) (some n) (b0 :: sts) p2 :: es) ((x, i, fs) :: hs) ((cv, i, tsX X P L fs) :: l)
section
variable {X : Cx} {P : Pm} {L : List Str} {sub : Str → Str → Bool} {body : List Stmt} {e0 : ExceptHandler} {es : List ExceptHandler} {hs : List (Str × Nat × (Evn → RS))} {l : List Hnd} {pos : Pos} {fb : Evn → RS}
theorem HV.ok (h : HV X P L sub es hs l) : HsOk X es l := by
  induction h with
  | nil => exact .nil
  | cons hc hi hl hx hsu r ih =>
    refine .cons hc hi hl (fun a o q d pn z w => ⟨fun pins s σ H D I t => ?_⟩) ih
    obtain ⟨c, C, ρ, F, h1, rfl, rfl, h2, h3, h4⟩ := t
    exact (hsu a o c C pn h1 h2 z w).run pins s σ H D I ⟨ρ, F, h3, h4⟩
theorem HV.catch (hE : P.E = none) (h : HV X P L sub es hs l) {D : Ends} {c : Str} {C : Addr} {ρ : Evn} {F F' H' : Hp} {σ' : Sg} (hc : c ∈ L) (hm : X.mg c = some (.ref C)) (sf : Same F F') (r : Rep X.K P ρ F' σ' H')
    (o : OutS X P D F (catchM sub hs c ρ)) : wHs X.K P.W D l (.ref C) none σ' H' := by
  induction h with
  | nil => exact o C σ' H' F' hm sf r
  | @cons x n cv i fs b0 sts p1 p2 es hs l hcn hi hln hx hsu rr ih =>
    refine ⟨sub c x, hx c C hc hm, fun hb a na => ?_, fun hb => ?_⟩
    · unfold catchM at o
      rw [if_pos hb] at o
      have hl : i < ρ.length := by
        by_cases hl : i < ρ.length
        · exact hl
        · rw [if_neg hl] at o
          exact o.elim
      rw [if_pos hl] at o
      refine ⟨c, C, ρ.set i (some (.exn c)), F', hc, rfl, rfl, hm, r.inX hE hl, ?_⟩
      cases q : fs (ρ.set i (some (.exn c))) with
      | bad => rw [q] at o; exact o.elim
      | exc c' ρ' => rw [q] at o; exact o.elim
      | ok p =>
        obtain ⟨fl, ρ'⟩ := p
        rw [q] at o
        cases fl with
        | nx => exact fun σ1 H1 F1 s1 r1 => o _ H1 F1 (sf.trans s1) (Rep.setNone (Rep.outX (i := i) r1))
        | bk => exact fun σ1 H1 F1 s1 r1 => o _ H1 F1 (sf.trans s1) (Rep.setNone (Rep.outX (i := i) r1))
        | ct => exact fun σ1 H1 F1 s1 r1 => o _ H1 F1 (sf.trans s1) (Rep.setNone (Rep.outX (i := i) r1))
        | rt d => exact fun v σ1 H1 F1 s1 r1 hv => o v _ H1 F1 (sf.trans s1) (Rep.setNone (Rep.outX (i := i) r1)) hv
    · unfold catchM at o
      rw [hb, if_neg (by decide)] at o
      exact ih o
theorem vs_try (hE : P.E = none) (nd : X.N.Nodup) (tk : Takes X P.W) (hv : HV X P L sub (e0 :: es) hs l)
    (hb : ∀ (W : WX) (pn : List (Addr × Obj)) (xe : Value → Shared → Prop), Takes (X.tr pn xe) W → PassesOwn (model X.prog X.w) X.A X.env xe → VSs (X.tr pn xe) (P.wi W) body fb)
    (h1 : X.stack = X.env :: X.outer := by rfl) (h2 : X.env.frame = some X.env.locals := by rfl) : VS X P (.Try body (e0 :: es) [] [] pos) (sTry L sub hs fb) :=
  PS_mono (ps_tryN (tb := fun W => tS X (P.wi W) fb) h1 h2 nd tk (fun W pn xe t po => hb W pn xe t po) hv.ok) fun D σ H h => by
    obtain ⟨ρ, F, hR, h⟩ := h
    refine ⟨ρ, F, Rep.wi.mpr hR, ?_⟩
    unfold sTry at h
    cases q : fb ρ with
    | bad => rw [q] at h; exact h.elim
    | ok p =>
      rw [q] at h
      obtain ⟨fl, ρ'⟩ := p
      cases fl with
      | nx => exact fun σ1 H1 F1 s1 r1 => h σ1 H1 F1 s1 (Rep.wi.mp r1)
      | bk => exact fun σ1 H1 F1 s1 r1 => h σ1 H1 F1 s1 (Rep.wi.mp r1)
      | ct => exact fun σ1 H1 F1 s1 r1 => h σ1 H1 F1 s1 (Rep.wi.mp r1)
      | rt d => exact fun v σ1 H1 F1 s1 r1 hv => h v σ1 H1 F1 s1 (Rep.wi.mp r1) hv
    | exc c ρ' =>
      rw [q] at h
      intro C σ1 H1 F1 hm s1 r1
      by_cases hc : c ∈ L
      · simp only [if_pos hc] at h
        have r2 := Rep.wi.mp r1
        exact HV.catch hE hv hc hm s1 r2 h
      · simp only [if_neg hc] at h
        exact h.elim
end

/-! ### isinstance(e, T), e the error that is held -/
def mIsX (sub : Str → Str → Bool) (i : Nat) (x : Str) (ρ : Evn) : RE PyData := match ρ[i]? with
  | some (some (.exn c)) => .ok (.bool (sub c x))
  | _ => .bad
section
variable {X : Cx} {P : Pm} {a : Addr} {o : Obj} {c : Str} {C : Addr} {pn : List (Addr × Obj)} {sub : Str → Str → Bool} {pos p p1 p2 : Pos} {n x : Str}
theorem ve_isX {D : Addr} (i : Nat) (hz : Zc (.ref C) none o) (hf : ∃ vs, o.data = .fields vs) (ex : ExcC X.K C) (hk : PySem.W.kitOne X.K (.ref C) (.ref D) = some (sub c x)) (hg : Gl X "isinstance") (hm : X.mg "isinstance" = none) (hg2 : Gl X x) (hm2 : X.mg x = some (.ref D))
    (hN : X.N[i]? = some n := by rfl) (hv : Vis X.env.scope n := by first | exact Or.inl rfl | exact Or.inr (Or.inl rfl) | exact Or.inr (Or.inr rfl)) (hd : (n == ("__debug__" : Str)) = false := by decide) (hcd : (n == ("__classdict__" : Str)) = false := by decide) (hdb : (x == ("__debug__" : Str)) = false := by decide) :
    VE (X.suite a ((a, o) :: pn)) (P.inX a c) (.Call (.Name "isinstance" p) [.Name n p1, .Name x p2] [] pos) (mIsX sub i x) :=
  PE_mono (pe_callB (X := X.suite a ((a, o) :: pn)) (call_isE (X := X) ex hz hf) hg hm (by decide +kernel) (pa_cons (pe_var (X := X.suite a ((a, o) :: pn)) (i := i) hN hv hd hcd) (pa_cons (pe_glob (X := X.suite a ((a, o) :: pn)) (v := .ref D) hg2 hm2 rfl hdb) pa_nil))) fun σ H Q h => by
    obtain ⟨ρ, F, hR, h⟩ := h
    unfold mIsX at h
    split at h
    · rename_i c' q
      obtain ⟨v, h1, b, e1, e2⟩ := hR.slot i _ q
      cases e1
      subst e2
      exact ⟨_, h1, .ref D, .ref D, _, rfl, fun u hu => hu, hk, h _ H F (Ext.refl hR.fh) (.bl _)⟩
    · exact h.elim
theorem ve_isXb {T : String} (i : Nat) (hz : Zc (.ref C) none o) (hf : ∃ vs, o.data = .fields vs) (ex : ExcC X.K C) (hk : PySem.W.kitOne X.K (.ref C) (.type T) = some (sub c x)) (hg : Gl X "isinstance") (hm : X.mg "isinstance" = none) (hg2 : Gl X x) (hm2 : X.mg x = none) (hb : bootBuiltins x = some (.type T))
    (hN : X.N[i]? = some n := by rfl) (hv : Vis X.env.scope n := by first | exact Or.inl rfl | exact Or.inr (Or.inl rfl) | exact Or.inr (Or.inr rfl)) (hd : (n == ("__debug__" : Str)) = false := by decide) (hcd : (n == ("__classdict__" : Str)) = false := by decide) (hn : x ≠ "__name__" := by decide) (hdb : (x == ("__debug__" : Str)) = false := by decide) :
    VE (X.suite a ((a, o) :: pn)) (P.inX a c) (.Call (.Name "isinstance" p) [.Name n p1, .Name x p2] [] pos) (mIsX sub i x) :=
  PE_mono (pe_callB (X := X.suite a ((a, o) :: pn)) (call_isE (X := X) ex hz hf) hg hm (by decide +kernel) (pa_cons (pe_var (X := X.suite a ((a, o) :: pn)) (i := i) hN hv hd hcd) (pa_cons (pe_bltn (X := X.suite a ((a, o) :: pn)) (v := .ty T) hg2 hm2 hb rfl hn hdb) pa_nil))) fun σ H Q h => by
    obtain ⟨ρ, F, hR, h⟩ := h
    unfold mIsX at h
    split at h
    · rename_i c' q
      obtain ⟨v, h1, b, e1, e2⟩ := hR.slot i _ q
      cases e1
      subst e2
      exact ⟨_, h1, .ty T, .type T, _, rfl, fun u hu => hu, hk, h _ H F (Ext.refl hR.fh) (.bl _)⟩
    · exact h.elim
end
/-! ### raise X('m') -/
section
variable {X : Cx} {P : Pm} {C : Addr} {bmB : List Value} {B newId initId : String} {x m : Str} {j : Nat} {p p2 pos pos' : Pos}
theorem vs_raise (hc : X.calm = true) (tk : Takes X P.W) (F : ExcBaseFacts B newId initId bmB) (q : PySem.W.excIn X.K C bmB newId = true) (gC : X.mg x = some (.ref C)) (kC : PySem.W.keepIn X.K (.ref C) = true) (r : Raises X (.ref C)) (hg : Gl X x) (hdb : (x == ("__debug__" : Str)) = false := by decide) :
    VS X P (.Raise (some (.Call (.Name x p) [.Constant (.str m) j p2] [] pos)) none pos') (fun ρ => .exc x ρ) := PS_mono (ps_raise hc tk (pmk_own F q gC kC r hg hdb)) fun D σ H h => by
  obtain ⟨ρ, F, hR, h⟩ := h
  exact h C σ H F gC (Same.refl _) hR
/-- nothing is claimed of a statement -/
theorem vs_bad {st : Stmt} : VS X P st (fun _ => .bad) := ⟨fun pins s σ H D I h => by
  obtain ⟨ρ, F, hR, h⟩ := h
  exact h.elim⟩
theorem ve_bad {e : Expr} : VE X P e (fun _ => .bad) := ⟨fun pins s σ H Q I h => by
  obtain ⟨ρ, F, hR, h⟩ := h
  exact h.elim⟩
end
end PV
end
section
set_option Elab.async false
set_option linter.all false
set_option maxRecDepth 100000
set_option maxHeartbeats 4000000
namespace PV
open PySem PySem.Spec PySem.Calls PyProof.Rows L2

/-! ### the program's own error classes -/
def isxB (K : PySem.W.Frag) (D : Addr) : Bool :=
  decide (PySem.W.findIn K (.ref D) "__getattribute__" = some (some (.builtin "BaseException.__getattribute__"))) && (decide (PySem.W.findIn K (.ref D) "__getattr__" = some none) && (decide (PySem.W.subIn K (.ref D) (.type "BaseException") = some true) &&
  (PySem.W.hasDictIn K D && (decide (PySem.W.findIn K (.ref D) "__class__" = some (some (.builtin "object.__class__"))) && (decide (PySem.W.specialIn K (.builtin "object.__class__") "__get__" = some (some (.builtin "getset_descriptor.__get__"))) &&
  (decide (PySem.W.takesIn K (.builtin "object.__class__") = some true) && decide (PySem.W.mroIn K D (.type "object") = some true)))))))
theorem isx_ok {K : PySem.W.Frag} {D : Addr} (h : isxB K D = true) : ExcC K D := by
  simp only [isxB, Bool.and_eq_true, decide_eq_true_eq] at h
  obtain ⟨h1, h2, h3, h4, h5, h6, h7, h8⟩ := h
  exact ⟨h1, h2, h3, h4, h5, h6, h7, h8⟩
/-- what is asked of the classes of the list L; sub tells which is under which -/
def excsB (L : List Str) (sub : Str → Str → Bool) (K : PySem.W.Frag) : Bool := L.all fun c => (He.Fa.exc c).ok K && (isxB K (He.ga K c) && (decide (PySem.W.kitOne K (.ref (He.ga K c)) (.type "ValueError") = some (sub c "ValueError")) &&
  (L.all fun x => decide (PySem.W.exmOne K (.ref (He.ga K c)) (.ref (He.ga K x)) = some (sub c x)) && decide (PySem.W.kitOne K (.ref (He.ga K c)) (.ref (He.ga K x)) = some (sub c x)))))
structure ExAll (K : PySem.W.Frag) (mg : Str → Option Value) (L : List Str) (sub : Str → Str → Bool) : Prop where
  mg : ∀ c ∈ L, mg c = some (.ref (He.ga K c))
  ins : ∀ c ∈ L, PySem.W.excIn K (He.ga K c) He.veBase "ValueError.__new__" = true
  kp : ∀ c ∈ L, PySem.W.keepIn K (.ref (He.ga K c)) = true
  be : ∀ c ∈ L, PySem.W.subIn K (.ref (He.ga K c)) (.type "BaseException") = some true ∧ PySem.W.typeIn K (.ref (He.ga K c)) = some (.type "type")
  isx : ∀ c ∈ L, ExcC K (He.ga K c)
  kv : ∀ c ∈ L, PySem.W.kitOne K (.ref (He.ga K c)) (.type "ValueError") = some (sub c "ValueError")
  exm : ∀ c ∈ L, ∀ x ∈ L, PySem.W.exmOne K (.ref (He.ga K c)) (.ref (He.ga K x)) = some (sub c x)
  kit : ∀ c ∈ L, ∀ x ∈ L, PySem.W.kitOne K (.ref (He.ga K c)) (.ref (He.ga K x)) = some (sub c x)
theorem exAll_of {L : List Str} {sub : Str → Str → Bool} {K : PySem.W.Frag} {mg : Str → Option Value} (h : excsB L sub K = true) (hm : ∀ c ∈ L, mg c = some (.ref (He.ga K c))) : ExAll K mg L sub := by
  have key : ∀ c ∈ L, _ := fun c hc => List.all_eq_true.mp h c hc
  simp only [Bool.and_eq_true, decide_eq_true_eq, List.all_eq_true] at key
  exact ⟨hm, fun c hc => (He.exc_ok (key c hc).1).1, fun c hc => (He.exc_ok (key c hc).1).2.1, fun c hc => (He.exc_ok (key c hc).1).2.2, fun c hc => isx_ok (key c hc).2.1, fun c hc => (key c hc).2.2.1, fun c hc x hx => ((key c hc).2.2.2 x hx).1, fun c hc x hx => ((key c hc).2.2.2 x hx).2⟩
section
variable {X : Cx} {P : Pm} {L : List Str} {sub : Str → Str → Bool} {x m n c : Str} {j : Nat} {a C : Addr} {o : Obj} {pn : List (Addr × Obj)} {p p1 p2 pos pos' : Pos}
theorem vs_rai (hc : X.calm = true) (tk : Takes X P.W) (ex : ExAll X.K X.mg L sub) (hx : x ∈ L) (hg : Gl X x) (hdb : (x == ("__debug__" : Str)) = false := by decide) :
    VS X P (.Raise (some (.Call (.Name x p) [.Constant (.str m) j p2] [] pos)) none pos') (fun ρ => .exc x ρ) :=
  vs_raise hc tk PySem.F.excBase_ValueError (ex.ins x hx) (ex.mg x hx) (ex.kp x hx) (raises_own (ex.be x hx).1 (ex.be x hx).2) hg hdb
theorem ve_isx (i : Nat) (ex : ExAll X.K X.mg L sub) (hx : x ∈ L) (hcL : c ∈ L) (hC : X.mg c = some (.ref C)) (hz : Zc (.ref C) none o) (hf : ∃ vs, o.data = .fields vs) (hg : Gl X "isinstance") (hm : X.mg "isinstance" = none) (hg2 : Gl X x)
    (hN : X.N[i]? = some n := by rfl) (hv : Vis X.env.scope n := by first | exact Or.inl rfl | exact Or.inr (Or.inl rfl) | exact Or.inr (Or.inr rfl)) (hd : (n == ("__debug__" : Str)) = false := by decide) (hcd : (n == ("__classdict__" : Str)) = false := by decide) (hdb : (x == ("__debug__" : Str)) = false := by decide) :
    VE (X.suite a ((a, o) :: pn)) (P.inX a c) (.Call (.Name "isinstance" p) [.Name n p1, .Name x p2] [] pos) (mIsX sub i x) := by
  have e := (ex.mg c hcL).symm.trans hC
  cases e
  exact ve_isX i hz hf (ex.isx c hcL) (ex.kit c hcL x hx) hg hm hg2 (ex.mg x hx) hN hv hd hcd hdb
theorem ve_isv (i : Nat) (ex : ExAll X.K X.mg L sub) (hcL : c ∈ L) (hC : X.mg c = some (.ref C)) (hz : Zc (.ref C) none o) (hf : ∃ vs, o.data = .fields vs) (hg : Gl X "isinstance") (hm : X.mg "isinstance" = none) (hg2 : Gl X "ValueError") (hm2 : X.mg "ValueError" = none)
    (hN : X.N[i]? = some n := by rfl) (hv : Vis X.env.scope n := by first | exact Or.inl rfl | exact Or.inr (Or.inl rfl) | exact Or.inr (Or.inr rfl)) (hd : (n == ("__debug__" : Str)) = false := by decide) (hcd : (n == ("__classdict__" : Str)) = false := by decide) :
    VE (X.suite a ((a, o) :: pn)) (P.inX a c) (.Call (.Name "isinstance" p) [.Name n p1, .Name "ValueError" p2] [] pos) (mIsX sub i "ValueError") := by
  have e := (ex.mg c hcL).symm.trans hC
  cases e
  exact ve_isXb i hz hf (ex.isx c hcL) (ex.kv c hcL) hg hm hg2 hm2 (by decide +kernel) hN hv hd hcd
theorem hv_nil : HV X P L sub [] [] [] := .nil
theorem hv_cons {i : Nat} {fs : Evn → RS} {b0 : Stmt} {sts : List Stmt} {es : List ExceptHandler} {hs : List (Str × Nat × (Evn → RS))} {l : List Hnd} (ex : ExAll X.K X.mg L sub) (hx : x ∈ L) (hg : Gl X x) (hi : X.N[i]? = some n) (hl : X.env.kindOf n = some .local)
    (hsu : ∀ (a : Addr) (o : Obj) (c : Str) (C : Addr) (pn : List (Addr × Obj)), c ∈ L → X.mg c = some (.ref C) → Zc (.ref C) none o → (∃ vs, o.data = .fields vs) → VSs (X.suite a ((a, o) :: pn)) (P.inX a c) (b0 :: sts) fs)
    (r : HV X P L sub es hs l) (hdb : (x == ("__debug__" : Str)) = false := by decide) :
    HV X P L sub (.ExceptHandler (some (.Name x p1)) (some n) (b0 :: sts) p2 :: es) ((x, i, fs) :: hs) ((.ref (He.ga X.K x), i, tsX X P L fs) :: l) :=
  .cons ⟨hg, hdb, .inl (ex.mg x hx)⟩ hi hl (fun c C hc hC => by
    have e := (ex.mg c hc).symm.trans hC
    cases e
    exact ex.exm c hc x hx) hsu r
end

/-- a name of the module that stands for a whole number -/
theorem ve_gint {X : Cx} {P : Pm} {x : Str} {i : Int} {p : Pos} (h : ∃ t, X.mg x = some (.int i t)) (hg : Gl X x := by rfl) (hdb : (x == ("__debug__" : Str)) = false := by decide) : VE X P (.Name x p) (mC (.int i)) := by
  obtain ⟨t, h⟩ := h
  exact PE_mono (pe_glob (v := .int i) hg h ⟨t, rfl⟩ hdb) fun σ H Q h => by
    obtain ⟨ρ, F, hR, h⟩ := h
    exact h _ H F (Ext.refl hR.fh) (.int _)
/-- a name of the module that stands for a text -/
theorem ve_gstr {X : Cx} {P : Pm} {x z : Str} {p : Pos} (h : ∃ t, X.mg x = some (.str z t)) (hg : Gl X x := by rfl) (hdb : (x == ("__debug__" : Str)) = false := by decide) (hs : PyData.strOk z = true := by decide +kernel) : VE X P (.Name x p) (mC (.str z)) := by
  obtain ⟨t, h⟩ := h
  exact PE_mono (pe_glob (v := .str z) hg h ⟨t, rfl⟩ hdb) fun σ H Q h => by
    obtain ⟨ρ, F, hR, h⟩ := h
    exact h _ H F (Ext.refl hR.fh) (.str z hs)
/-- a name of the module that stands for a tuple of whole numbers -/
def GTup (K : PySem.W.Frag) (mg : Str → Option Value) (x : Str) (is : List Int) : Prop := ∃ a, mg x = some (.ref a) ∧ ∃ (o : Obj) (its : Array Value) (n : Nat), K.lookup a = some o ∧ o.cls = .type "tuple" ∧ o.data = .seq its n ∧ its.size ≤ sizeLine ∧ Vals (is.map V.int) its.toList
def intsB : List Value → List Int → Bool
  | [], [] => true
  | .int i _ :: r, j :: s => decide (i = j) && intsB r s
  | _, _ => false
theorem intsB_ok : ∀ {us : List Value} {is : List Int}, intsB us is = true → Vals (is.map V.int) us
  | [], [], _ => .nil
  | .int i t :: r, j :: s, h => by
    simp only [intsB, Bool.and_eq_true, decide_eq_true_eq] at h
    obtain ⟨rfl, h⟩ := h
    exact .cons ⟨t, rfl⟩ (intsB_ok h)
  | [], _ :: _, h => by simp [intsB] at h
  | .int _ _ :: _, [], h => by simp [intsB] at h
def tupB (x : Str) (is : List Int) (K : PySem.W.Frag) : Bool := match K.lookup (He.ga K x) with
  | some o => decide (o.cls = .type "tuple") && (match o.data with
    | .seq its _ => decide (its.size ≤ 1000) && intsB its.toList is
    | _ => false)
  | none => false
theorem tup_of {x : Str} {is : List Int} {K : PySem.W.Frag} {mg : Str → Option Value} (h : tupB x is K = true) (hm : mg x = some (.ref (He.ga K x))) : GTup K mg x is := by
  refine ⟨_, hm, ?_⟩
  unfold tupB at h
  split at h
  · rename_i o q
    simp only [Bool.and_eq_true, decide_eq_true_eq] at h
    obtain ⟨h1, h2⟩ := h
    split at h2
    · rename_i its n e
      simp only [Bool.and_eq_true, decide_eq_true_eq] at h2
      exact ⟨o, its, n, q, h1, e, by rw [line_eq]; omega, intsB_ok h2.2⟩
    · cases h2
  · cases h
theorem ints_vd {K : PySem.W.Frag} {F : Hp} : ∀ is : List Int, VdAll K F (is.map V.int) (is.map PyData.int)
  | [] => .nil
  | i :: r => .cons (.int i) (ints_vd r)
theorem ve_gtup {X : Cx} {P : Pm} {x : Str} {is : List Int} {p : Pos} (h : GTup X.K X.mg x is) (hg : Gl X x := by rfl) (hdb : (x == ("__debug__" : Str)) = false := by decide) : VE X P (.Name x p) (mC (.tuple (is.map .int))) := by
  obtain ⟨a, hm, o, its, n, h1, h2, h3, h4, h5⟩ := h
  exact PE_mono (pe_glob (v := .ref a) hg hm rfl hdb) fun σ H Q h => by
    obtain ⟨ρ, F, hR, h⟩ := h
    exact h _ H F (Ext.refl hR.fh) (.tup (.inr ⟨o, its, n, h1, h2, h3, h4, h5⟩) (by rw [Vals.length h5]; rw [Array.length_toList]; exact h4) (ints_vd is))
/-! ### reckoned -/
/-- the error that a name holds -/
def gtX : Evn → Nat → Option Str
  | [], _ => none
  | some (.exn c) :: _, 0 => some c
  | some (.val _) :: _, 0 => none
  | some (.own _) :: _, 0 => none
  | none :: _, 0 => none
  | _ :: r, n + 1 => gtX r n
@[simp] theorem gx_v (c : Str) (r : Evn) : gtX (some (.exn c) :: r) 0 = some c := nr rfl
@[simp] theorem gx_s (o : Option Cel) (r : Evn) (n : Nat) : gtX (o :: r) (n + 1) = gtX r n := by cases o with
  | none => rfl
  | some c => cases c <;> rfl
@[simp] theorem e_mIsX (sub : Str → Str → Bool) (i : Nat) (x : Str) (ρ : Evn) : mIsX sub i x ρ = (ofO (gtX ρ i)).bind fun c => .ok (.bool (sub c x)) := by
  unfold mIsX
  induction ρ generalizing i with
  | nil => rfl
  | cons o r ih => cases i with
    | zero => rcases o with _ | ⟨_ | _ | _⟩ <;> rfl
    | succ n => rw [List.getElem?_cons_succ, gx_s]; exact ih n
def tryC (L : List Str) (sub : Str → Str → Bool) (hs : List (Str × Nat × (Evn → RS))) : RS → RS
  | .ok p => .ok p
  | .exc c ρ => if c ∈ L then catchM sub hs c ρ else .bad
  | .bad => .bad
@[simp] theorem e_sTry (L : List Str) (sub : Str → Str → Bool) (hs : List (Str × Nat × (Evn → RS))) (fb : Evn → RS) (ρ : Evn) : sTry L sub hs fb ρ = tryC L sub hs (fb ρ) := by
  unfold sTry tryC
  cases fb ρ <;> rfl
@[simp] theorem tc_ok (L : List Str) (sub : Str → Str → Bool) (hs : List (Str × Nat × (Evn → RS))) (p : Fl × Evn) : tryC L sub hs (.ok p) = .ok p := nr rfl
@[simp] theorem tc_exc (L : List Str) (sub : Str → Str → Bool) (hs : List (Str × Nat × (Evn → RS))) (c : Str) (ρ : Evn) : tryC L sub hs (.exc c ρ) = if c ∈ L then catchM sub hs c ρ else .bad := nr rfl
@[simp] theorem cm_nil (sub : Str → Str → Bool) (c : Str) (ρ : Evn) : catchM sub [] c ρ = .exc c ρ := nr rfl
@[simp] theorem cm_cons (sub : Str → Str → Bool) (h : Str) (i : Nat) (fs : Evn → RS) (r : List (Str × Nat × (Evn → RS))) (c : Str) (ρ : Evn) : catchM sub ((h, i, fs) :: r) c ρ = if sub c h = true then (if i < ρ.length then endX i (fs (stE ρ i (.exn c))) else .bad) else catchM sub r c ρ := by
  rw [← set_stE]; exact id rfl
@[simp] theorem ex_ok (i : Nat) (fl : Fl) (ρ : Evn) : endX i (.ok (fl, ρ)) = .ok (fl, clE (dropX ρ) i) := by rw [← set_clE]; exact id rfl
@[simp] theorem dx_nil : dropX [] = [] := nr rfl
@[simp] theorem dx_v (d : PyData) (r : Evn) : dropX (some (.val d) :: r) = some (.val d) :: dropX r := nr rfl
@[simp] theorem dx_o (d : List PyData) (r : Evn) : dropX (some (.own d) :: r) = some (.own d) :: dropX r := nr rfl
@[simp] theorem dx_x (c : Str) (r : Evn) : dropX (some (.exn c) :: r) = none :: dropX r := nr rfl
@[simp] theorem dx_n (r : Evn) : dropX (none :: r) = none :: dropX r := nr rfl
@[simp] theorem at_exx (c : Str) (u : Unit) (ρ : Evn) : R.at (.exc c u : RE PyData) ρ = .exc c ρ := nr rfl
end PV
end
section
set_option Elab.async false
set_option linter.all false
set_option maxRecDepth 100000
set_option maxHeartbeats 4000000
namespace PV
open PySem

/-! ### likeness of plain data with themselves -/
theorem eqvAll_self : ∀ {xs : List PyData}, (∀ x ∈ xs, PyData.eqv x x = true) → PyData.eqvAll xs xs = true
  | [], _ => by simp only [PyData.eqvAll]
  | x :: r, h => by
    simp only [PyData.eqvAll]
    rw [h x (List.mem_cons_self ..), eqvAll_self (fun y hy => h y (List.mem_cons_of_mem _ hy))]
    rfl
theorem eqv_self : ∀ (k : Nat) (d : PyData), plainD k d → PyData.eqv d d = true
  | 0, _, h => h.elim
  | k + 1, .none, _ => by simp only [PyData.eqv]
  | k + 1, .bool b, _ => by simp [PyData.eqv]
  | k + 1, .int b, _ => by simp [PyData.eqv]
  | k + 1, .str b, _ => by simp [PyData.eqv]
  | k + 1, .list xs, h => by
    simp only [PyData.eqv]
    exact eqvAll_self fun x hx => eqv_self k x (h.2 x hx)
  | k + 1, .tuple xs, h => by
    simp only [PyData.eqv]
    exact eqvAll_self fun x hx => eqv_self k x (h.2 x hx)
  | k + 1, .dict _, h => h.elim
theorem depthAll_le {k : Nat} : ∀ {xs : List PyData}, (∀ x ∈ xs, x.depth ≤ k) → PyData.depthAll xs ≤ k
  | [], _ => Nat.zero_le _
  | x :: r, h => by
    simp only [PyData.depthAll]
    exact Nat.max_le.mpr ⟨h x (List.mem_cons_self ..), depthAll_le fun y hy => h y (List.mem_cons_of_mem _ hy)⟩
theorem depth_plain : ∀ (k : Nat) (d : PyData), plainD k d → d.depth ≤ k
  | 0, _, h => h.elim
  | k + 1, .none, _ => Nat.zero_le _
  | k + 1, .bool b, _ => Nat.zero_le _
  | k + 1, .int b, _ => Nat.zero_le _
  | k + 1, .str b, _ => Nat.zero_le _
  | k + 1, .list xs, h => by
    simp only [PyData.depth]
    exact Nat.succ_le_succ (depthAll_le fun x hx => depth_plain k x (h.2 x hx))
  | k + 1, .tuple xs, h => by
    simp only [PyData.depth]
    exact Nat.succ_le_succ (depthAll_le fun x hx => depth_plain k x (h.2 x hx))
  | k + 1, .dict _, h => h.elim
theorem eq_self {k : Nat} {d : PyData} (hk : k ≤ 64) (h : plainD k d) : pEq d d = some (.bool true) := by
  unfold pEq
  rw [if_pos (show eqOk d d from Or.inl (Nat.le_trans (depth_plain k d h) hk)), eqv_self k d h]
theorem ne_self {k : Nat} {d : PyData} (hk : k ≤ 64) (h : plainD k d) : pNe d d = some (.bool false) := by
  unfold pNe
  rw [if_pos (show eqOk d d from Or.inl (Nat.le_trans (depth_plain k d h) hk)), eqv_self k d h]
  rfl
open PySem.W in
theorem eq_pr (a b c d : Int) : pEq (.tuple [.int a, .int b]) (.tuple [.int c, .int d]) = some (.bool (decide ((a, b) = (c, d)))) := eq_dat (α := Int × Int) (by decide) (a, b) (c, d)
open PySem.W in
theorem ne_pr (a b c d : Int) : pNe (.tuple [.int a, .int b]) (.tuple [.int c, .int d]) = some (.bool (decide ((a, b) ≠ (c, d)))) := ne_dat (α := Int × Int) (by decide) (a, b) (c, d)

/-! ### greatest, least -/
theorem lmax_some {ns : List Int} (h : ns ≠ []) : ∃ m, lmax ns = some m ∧ m ∈ ns ∧ ∀ y ∈ ns, y ≤ m := by
  cases ns with
  | nil => exact absurd rfl h
  | cons n r =>
    obtain ⟨h1, h2, h3⟩ := foldl_max r n
    refine ⟨_, rfl, ?_, ?_⟩
    · rcases h1 with h1 | h1
      · rw [h1]; exact List.mem_cons_self ..
      · exact List.mem_cons_of_mem _ h1
    · intro y hy
      rcases List.mem_cons.mp hy with rfl | hy
      · exact h2
      · exact h3 y hy
theorem lmin_some {ns : List Int} (h : ns ≠ []) : ∃ m, lmin ns = some m ∧ m ∈ ns ∧ ∀ y ∈ ns, m ≤ y := by
  cases ns with
  | nil => exact absurd rfl h
  | cons n r =>
    obtain ⟨h1, h2, h3⟩ := foldl_min r n
    refine ⟨_, rfl, ?_, ?_⟩
    · rcases h1 with h1 | h1
      · rw [h1]; exact List.mem_cons_self ..
      · exact List.mem_cons_of_mem _ h1
    · intro y hy
      rcases List.mem_cons.mp hy with rfl | hy
      · exact h2
      · exact h3 y hy
/-! ### sizes -/
theorem log2_sz {i : Int} {a : Nat} (hi : i.natAbs < 2 ^ a) : i.natAbs.log2 ≤ a := by
  by_cases h : i.natAbs = 0
  · rw [h]; exact Nat.zero_le _
  · exact Nat.le_of_lt ((Nat.log2_lt h).mpr hi)
theorem mulOk_sz {i j : Int} {a b : Nat} (hi : i.natAbs < 2 ^ a) (hj : j.natAbs < 2 ^ b) (h : a + b ≤ 900000) : mulOk i j := by
  have h1 := log2_sz hi
  have h2 := log2_sz hj
  exact .inr (.inr (by omega))
theorem divOk_sz {j : Int} {b : Nat} (h0 : j ≠ 0) (hj : j.natAbs < 2 ^ b) (h : b < 9000) : divOk j := by
  have h1 := log2_sz hj
  exact ⟨h0, by omega⟩
theorem pow_le_pow2 {a b : Nat} (h : a ≤ b) : 2 ^ a ≤ 2 ^ b := Nat.pow_le_pow_right (by decide) h
theorem mul_sz {i j : Int} {a b : Nat} (hi : i.natAbs < 2 ^ a) (hj : j.natAbs < 2 ^ b) : (i * j).natAbs < 2 ^ (a + b) := by
  rw [Int.natAbs_mul, Nat.pow_add]
  exact Nat.mul_lt_mul'' hi hj
theorem add_sz {i j : Int} {a : Nat} (hi : i.natAbs < 2 ^ a) (hj : j.natAbs < 2 ^ a) : (i + j).natAbs < 2 ^ (a + 1) := by
  have := Int.natAbs_add_le i j
  rw [Nat.pow_succ]
  omega
theorem sub_sz {i j : Int} {a : Nat} (hi : i.natAbs < 2 ^ a) (hj : j.natAbs < 2 ^ a) : (i - j).natAbs < 2 ^ (a + 1) := by
  have := Int.natAbs_add_le i (-j)
  rw [Int.natAbs_neg] at this
  rw [Nat.pow_succ, Int.sub_eq_add_neg]
  omega

/-! ### fractions -/
abbrev qd (q : Rat) : PyData := .tuple [.int q.num, .int q.den]
def Sz (n : Nat) (q : Rat) : Prop := q.num.natAbs < 2 ^ n ∧ q.den < 2 ^ n
theorem Sz.mono {a b : Nat} {q : Rat} (h : Sz a q) (hab : a ≤ b) : Sz b q := ⟨Nat.lt_of_lt_of_le h.1 (pow_le_pow2 hab), Nat.lt_of_lt_of_le h.2 (pow_le_pow2 hab)⟩
theorem Sz.dn {a : Nat} {q : Rat} (h : Sz a q) : (q.den : Int).natAbs < 2 ^ a := by rw [Int.natAbs_natCast]; exact h.2
theorem den_pos (q : Rat) : (0 : Int) < q.den := by have := q.den_pos; omega
theorem divInt_parts {t b : Int} (hb : 0 < b) : (Rat.divInt t b).num = t / ((Nat.gcd t.natAbs b.natAbs : Nat) : Int) ∧ (((Rat.divInt t b).den : Nat) : Int) = b / ((Nat.gcd t.natAbs b.natAbs : Nat) : Int) := by
  have h1 := Rat.num_divInt t b
  have h2 := Rat.den_divInt t b
  have e : b.gcd t = Nat.gcd t.natAbs b.natAbs := by rw [Int.gcd, Nat.gcd_comm]
  rw [e] at h1 h2
  constructor
  · rw [h1, Int.sign_eq_one_of_pos hb, Int.one_mul]
  · rw [h2, if_neg (by omega), Int.natCast_ediv, Int.natAbs_of_nonneg (by omega)]
theorem divInt_flip (t b : Int) (hb : b ≠ 0) : Rat.divInt (-t) (-b) = Rat.divInt t b := (Rat.divInt_eq_divInt_iff (by omega) hb).mpr (by rw [Int.neg_mul, Int.mul_neg])
theorem divInt_sz {t b : Int} {n : Nat} (hb : b ≠ 0) (h1 : t.natAbs < 2 ^ n) (h2 : b.natAbs < 2 ^ n) : Sz n (Rat.divInt t b) := by
  have key : ∀ (t b : Int), 0 < b → t.natAbs < 2 ^ n → b.natAbs < 2 ^ n → Sz n (Rat.divInt t b) := by
    intro t b hb h1 h2
    obtain ⟨e1, e2⟩ := divInt_parts (t := t) hb
    have g0 : 0 < Nat.gcd t.natAbs b.natAbs := Nat.gcd_pos_of_pos_right _ (by omega)
    constructor
    · rw [e1, Int.natAbs_ediv_of_dvd (Int.ofNat_dvd_left.mpr (Nat.gcd_dvd_left _ _)), Int.natAbs_natCast]
      exact Nat.lt_of_le_of_lt (Nat.div_le_self _ _) h1
    · have : ((Rat.divInt t b).den : Int).natAbs < 2 ^ n := by
        rw [e2, Int.natAbs_ediv_of_dvd (Int.ofNat_dvd_left.mpr (Nat.gcd_dvd_right _ _)), Int.natAbs_natCast]
        exact Nat.lt_of_le_of_lt (Nat.div_le_self _ _) h2
      rw [Int.natAbs_natCast] at this
      exact this
  by_cases h : 0 < b
  · exact key t b h h1 h2
  · rw [← divInt_flip t b hb]
    exact key (-t) (-b) (by omega) (by rw [Int.natAbs_neg]; exact h1) (by rw [Int.natAbs_neg]; exact h2)
theorem add_eq (p q : Rat) : Rat.divInt (p.num * q.den + q.num * p.den) (p.den * q.den) = p + q := by
  have h1 := den_pos p
  have h2 := den_pos q
  rw [← Rat.divInt_add_divInt p.num q.num (by omega) (by omega), Rat.num_divInt_den, Rat.num_divInt_den]
theorem sub_eq (p q : Rat) : Rat.divInt (p.num * q.den - q.num * p.den) (p.den * q.den) = p - q := by
  have h1 := den_pos p
  have h2 := den_pos q
  rw [← Rat.divInt_sub_divInt p.num q.num (by omega) (by omega), Rat.num_divInt_den, Rat.num_divInt_den]
theorem mul_eq (p q : Rat) : Rat.divInt (p.num * q.num) (p.den * q.den) = p * q := by
  rw [← Rat.divInt_mul_divInt p.num q.num, Rat.num_divInt_den, Rat.num_divInt_den]
theorem div_mul (p q : Rat) (hq : q.num ≠ 0) : Rat.divInt (p.num * q.den) (p.den * q.num) * q = p := by
  have h1 := den_pos p
  have h2 := den_pos q
  have e : Rat.divInt (p.num * q.den) (p.den * q.num) * q = Rat.divInt (p.num * q.den * q.num) (p.den * q.num * q.den) := by
    have := Rat.divInt_mul_divInt (p.num * q.den) q.num (d₁ := p.den * q.num) (d₂ := q.den)
    rw [Rat.num_divInt_den] at this
    exact this
  rw [e]
  have : p.den * q.num * q.den ≠ 0 := Int.mul_ne_zero (Int.mul_ne_zero (by omega) hq) (by omega)
  have e2 : Rat.divInt (p.num * q.den * q.num) (p.den * q.num * q.den) = Rat.divInt p.num p.den := (Rat.divInt_eq_divInt_iff this (by omega)).mpr (by
    simp only [Int.mul_comm, Int.mul_left_comm, Int.mul_assoc])
  rw [e2, Rat.num_divInt_den]
theorem plain_qd {k : Nat} (q : Rat) : plainD (k + 2) (qd q) := ⟨by simp, fun x hx => by
  simp only [List.mem_cons, List.not_mem_nil, or_false] at hx
  rcases hx with rfl | rfl <;> trivial⟩
theorem ne_qd (q : Rat) : pNe (qd q) (qd q) = some (.bool false) := ne_self (k := 2) (by decide) (plain_qd (k := 0) q)
end PV
end
section
set_option Elab.async false
set_option linter.all false
set_option maxRecDepth 100000
set_option maxHeartbeats 4000000
namespace PV
open PySem

/-! ### sorted lists of whole numbers, of pairs of them -/
def leI (a b : Int) : Bool := decide (a ≤ b)
def leP (a b : Int × Int) : Bool := decide (a.1 < b.1) || (decide (a.1 = b.1) && decide (a.2 ≤ b.2))
abbrev pr (x : Int × Int) : PyData := .tuple [.int x.1, .int x.2]
theorem sort_li (ns : List Int) : bSorted [li ns] = some (li (ns.mergeSort leI)) := by
  have ok : sortOk (ns.map PyData.int) := by
    refine ⟨fun d hd d' hd' => ?_, PySem.W.Sortable.others fun b => ⟨(fun e => nomatch e), fun xs e => nomatch e⟩, fun d hd => ?_⟩
    · obtain ⟨i, _, rfl⟩ := List.mem_map.mp hd
      obtain ⟨j, _, rfl⟩ := List.mem_map.mp hd'
      simp [PySem.W.alike]
    · obtain ⟨i, _, rfl⟩ := List.mem_map.mp hd
      exact Nat.zero_le _
  have e := PySem.W.sort_maps (r := leI) (s := leD) PyData.int (l := ns) fun a _ b _ => by
    unfold leI leD
    rw [PySem.W.dataLt_int]
    by_cases h : a ≤ b
    · rw [decide_eq_true h, decide_eq_false (by omega)]; rfl
    · rw [decide_eq_false h, decide_eq_true (by omega)]; rfl
  unfold bSorted
  exact (if_pos ok).trans (by rw [← e])
theorem dataLt_pr (x y : Int × Int) : PySem.W.dataLt (pr x) (pr y) = (decide (x.1 < y.1) || (decide (x.1 = y.1) && decide (x.2 < y.2))) := by
  unfold pr
  rw [PySem.W.dataLt_pair (by simp [PySem.W.alike]) (by simp [PySem.W.alike]), PySem.W.dataLt_int, PySem.W.dataLt_int]
  simp only [PyData.eqv, beq_iff_eq]
  by_cases h1 : x.1 = y.1
  · rw [if_pos h1]
    by_cases h2 : x.2 = y.2
    · rw [if_pos h2, decide_eq_false (show ¬ x.1 < y.1 by omega), decide_eq_false (show ¬ x.2 < y.2 by omega), Bool.and_false]; rfl
    · rw [if_neg h2, decide_eq_false (show ¬ x.1 < y.1 by omega), decide_eq_true h1]; rfl
  · rw [if_neg h1, decide_eq_false h1, Bool.false_and, Bool.or_false]
theorem sort_pr (ps : List (Int × Int)) : bSorted [.list (ps.map pr)] = some (.list ((ps.mergeSort leP).map pr)) := by
  have ok : sortOk (ps.map pr) := by
    refine ⟨fun d hd d' hd' => ?_, PySem.W.Sortable.tuples fun b => ⟨_, _, rfl⟩, fun d hd => ?_⟩
    · obtain ⟨i, _, rfl⟩ := List.mem_map.mp hd
      obtain ⟨j, _, rfl⟩ := List.mem_map.mp hd'
      simp [PySem.W.alike, PySem.W.alikeAll]
    · obtain ⟨i, _, rfl⟩ := List.mem_map.mp hd
      simp [PyData.depth, PyData.depthAll]
  have e := PySem.W.sort_maps (r := leP) (s := leD) pr (l := ps) fun a _ b _ => by
    unfold leP leD
    rw [dataLt_pr]
    by_cases h : a.1 < b.1
    · rw [decide_eq_true h, decide_eq_false (show ¬ b.1 < a.1 by omega), decide_eq_false (show ¬ b.1 = a.1 by omega)]; rfl
    · by_cases h2 : a.1 = b.1
      · rw [decide_eq_false h, decide_eq_true h2, decide_eq_false (show ¬ b.1 < a.1 by omega), decide_eq_true h2.symm]
        by_cases h3 : a.2 ≤ b.2
        · rw [decide_eq_true h3, decide_eq_false (show ¬ b.2 < a.2 by omega)]; rfl
        · rw [decide_eq_false h3, decide_eq_true (show b.2 < a.2 by omega)]; rfl
      · rw [decide_eq_false h, decide_eq_false h2, decide_eq_true (show b.1 < a.1 by omega)]; rfl
  unfold bSorted
  exact (if_pos ok).trans (by rw [← e])
theorem leI_sorted (ns : List Int) : List.Pairwise (fun a b => a ≤ b) (ns.mergeSort leI) := by
  have := List.pairwise_mergeSort (le := leI) (fun a b c h1 h2 => by
    unfold leI at *
    have := of_decide_eq_true h1
    have := of_decide_eq_true h2
    exact decide_eq_true (by omega)) (fun a b => by
    unfold leI
    rcases Int.le_total a b with h | h
    · rw [decide_eq_true h, Bool.true_or]
    · rw [decide_eq_true h, Bool.or_true]) ns
  exact this.imp fun h => of_decide_eq_true h
theorem leI_mem {ns : List Int} {x : Int} : x ∈ ns.mergeSort leI ↔ x ∈ ns := (List.mergeSort_perm ns leI).mem_iff
theorem leI_len (ns : List Int) : (ns.mergeSort leI).length = ns.length := (List.mergeSort_perm ns leI).length_eq
end PV
end
section
set_option Elab.async false
set_option linter.all false
set_option maxRecDepth 100000
set_option maxHeartbeats 4000000
namespace PV
open PySem PySem.Spec PySem.Calls PyProof.Rows L2

/-! ### list(range(..)), x[::-1] -/
def lrgOk (a b : Int) : Prop := -(2 ^ 62) ≤ a ∧ a < 2 ^ 62 ∧ -(2 ^ 62) ≤ b ∧ b < 2 ^ 62 ∧ (b - a).toNat ≤ 2 ^ 24
instance (a b : Int) : Decidable (lrgOk a b) := by unfold lrgOk; exact inferInstance
def pLrg : PyData → PyData → RE (List PyData)
  | .int a, .int b => if lrgOk a b then .ok (rangeL a (b - a).toNat) else .bad
  | _, _ => .bad
def mLrg1 (fa : Evn → RE PyData) (ρ : Evn) : RE (List PyData) := (fa ρ).bind fun d => pLrg (.int 0) d
def mLrg2 (fa fb : Evn → RE PyData) (ρ : Evn) : RE (List PyData) := (fa ρ).bind fun d => (fb ρ).bind fun e => pLrg d e
theorem rg_vd {K : PySem.W.Frag} {F : Hp} (a b : Int) : VdAll K F (rgV a b) (rangeL a (b - a).toNat) := by
  unfold rgV rangeL
  generalize List.range (b - a).toNat = l
  induction l with
  | nil => exact .nil
  | cons i r ih => exact .cons (.int _) ih
theorem rg_line {a b : Int} (h : lrgOk a b) : (rgV a b).length ≤ sizeLine := by
  rw [rgV_length, line_eq]; exact h.2.2.2.2
section
variable {X : Cx} {P : Pm} {a b : Expr} {fa fb : Evn → RE PyData} {p p2 pos pos2 : Pos}
theorem vf_lrg1 (hc : X.calm = true) (hg : Gl X "list") (hm : X.mg "list" = none) (hg2 : Gl X "range") (hm2 : X.mg "range" = none) (ha : VE X P a fa)
    (na : starEach [a] X.env = (false, eval a X.env) :: starEach [] X.env := by rfl) :
    VF X P (.Call (.Name "list" p) [.Call (.Name "range" p2) [a] [] pos2] [] pos) (mLrg1 fa) := PE_mono (pe_listRg hc hg hm (prg_1 hg2 hm2 ha na)) fun σ H Q h => by
  obtain ⟨ρ, F, hR, h⟩ := h
  refine OutF.first hR h fun d v F1 H1 e1 hv R1 h1 => ?_
  cases hv with
  | int n =>
    have h1' : OutF X P σ Q F1 H1 (if lrgOk 0 n then .ok (rangeL 0 (n - 0).toNat) else .bad) := h1
    by_cases hr : lrgOk 0 n
    · rw [if_pos hr] at h1'
      exact ⟨n, rfl, hr, OutF.new R1.fh h1' (rg_line hr) (rg_vd 0 n)⟩
    · rw [if_neg hr] at h1'; exact h1'.elim
  | _ => exact h1.elim
theorem vf_lrg2 (hc : X.calm = true) (hg : Gl X "list") (hm : X.mg "list" = none) (hg2 : Gl X "range") (hm2 : X.mg "range" = none) (ha : VE X P a fa) (hb : VE X P b fb)
    (na : starEach [a, b] X.env = (false, eval a X.env) :: starEach [b] X.env := by rfl) (nb : starEach [b] X.env = (false, eval b X.env) :: starEach [] X.env := by rfl) (hp : (backTo pos2 (starEach [b] X.env)).any (·.1) = false := by rfl) :
    VF X P (.Call (.Name "list" p) [.Call (.Name "range" p2) [a, b] [] pos2] [] pos) (mLrg2 fa fb) := PE_mono (pe_listRg hc hg hm (prg_2 hg2 hm2 ha hb na nb hp)) fun σ H Q h => by
  obtain ⟨ρ, F, hR, h⟩ := h
  refine OutF.first hR h fun d v F1 H1 e1 hv R1 h1 => ?_
  refine OutF.first R1 h1 fun d2 v2 F2 H2 e2 hv2 R2 h2 => ?_
  cases hv with
  | int i =>
    cases hv2 with
    | int n =>
      have h1' : OutF X P σ Q F2 H2 (if lrgOk i n then .ok (rangeL i (n - i).toNat) else .bad) := h2
      by_cases hr : lrgOk i n
      · rw [if_pos hr] at h1'
        exact ⟨i, n, rfl, rfl, hr, OutF.new R2.fh h1' (rg_line hr) (rg_vd i n)⟩
      · rw [if_neg hr] at h1'; exact h1'.elim
    | _ => exact h2.elim
  | _ => cases hv2 <;> exact h2.elim
/-- x[::-1] -/
theorem vf_revS {k : Nat} {p1 p3 : Pos} (ha : VE X P a fa) : VF X P (.Subscript a (.Slice none none (some (.UnaryOp .USub (.Constant (.int 1) k p1) p2)) p3) pos) (mBind fa pRevL) := PE_mono (L2.pe_revL ha) fun σ H Q h => by
  obtain ⟨ρ, F, hR, h⟩ := h
  refine OutF.first hR h fun d v F1 H1 e1 hv R1 h1 => ?_
  cases hv with
  | lst hs hz hd => exact ⟨_, _, rfl, R1.fh.seq hs, OutF.new R1.fh h1 (by rw [List.length_reverse]; exact hz) hd.reverse⟩
  | _ => exact h1.elim
end
@[simp] theorem e_mLrg1 (fa : Evn → RE PyData) (ρ : Evn) : mLrg1 fa ρ = (fa ρ).bind fun d => pLrg (.int 0) d := nr rfl
@[simp] theorem e_mLrg2 (fa fb : Evn → RE PyData) (ρ : Evn) : mLrg2 fa fb ρ = (fa ρ).bind fun d => (fb ρ).bind fun e => pLrg d e := nr rfl
@[simp] theorem d_lrg (a b : Int) : pLrg (.int a) (.int b) = if lrgOk a b then .ok (rangeL a (b - a).toNat) else .bad := nr rfl
end PV
end
section
set_option Elab.async false
set_option linter.all false
set_option maxRecDepth 100000
set_option maxHeartbeats 4000000
namespace PV
open PySem PySem.Spec PySem.Calls PyProof.Rows L2

/-! ### min, max of a list of alike data -/
def mmOk (ds : List PyData) : Prop := PySem.W.AlikeAll ds ∧ ∀ d ∈ ds, d.depth ≤ 60
open Classical in
noncomputable def bMinD : List PyData → Option PyData
  | [.list (x :: xs)] => if mmOk (x :: xs) then some (PySem.W.minD x xs) else none
  | _ => none
open Classical in
noncomputable def bMaxD : List PyData → Option PyData
  | [.list (x :: xs)] => if mmOk (x :: xs) then some (PySem.W.maxD x xs) else none
  | _ => none
theorem depthAll_mm : ∀ {ds : List PyData}, (∀ d ∈ ds, d.depth ≤ 60) → PyData.depthAll ds ≤ 60
  | [], _ => Nat.zero_le _
  | d :: r, h => by
    simp only [PyData.depthAll]
    exact Nat.max_le.mpr ⟨h d (List.mem_cons_self ..), depthAll_mm fun y hy => h y (List.mem_cons_of_mem _ hy)⟩
section
variable {X : Cx}
theorem vd_all_dp {F : Hp} : ∀ {vs : List V} {ds : List PyData}, VdAll X.K F vs ds → DpAll X.K F vs ds
  | _, _, .nil => .nil
  | _, _, .cons h t => .cons (Vd.dp _ _ h).1 (vd_all_dp t)
theorem cb_minD {k : Nat} (hr : Room k X.A) : CallR X (.builtin "min") (rCV X bMinD) := by
  intro pins s σ H xs us Q I r h
  obtain ⟨F, ds, d, sf, hv, hg, hq⟩ := h
  unfold bMinD at hg
  split at hg
  · rename_i e es
    by_cases hp : mmOk (e :: es)
    case neg => rw [if_neg hp] at hg; cases hg
    rw [if_pos hp] at hg
    cases hg
    obtain ⟨v, rfl, h1⟩ := vd1 hv
    cases h1 with
    | @lst a ys _ hs hz ha =>
      rw [Vals.ref1 r]
      obtain ⟨its, rv, hl, hz'⟩ := I.list (sf.seq hs)
      have hun := hr.un
      have hdp := depthAll_mm hp.2
      obtain ⟨as, ra⟩ := Dp.readsAll I (e :: es) ys its (vd_all_dp (VdAll.mono sf _ _ ha)) rv
      refine PySem.W.min_list_data hr.hd hl.isList (by rw [List.toList_toArray]; exact ra) hp.1 (by omega) fun i u h' tk bs hi hR hk => ?_
      have hi' : its[i]? = some u := by simpa using hi
      obtain ⟨bs2, r2, hlt, _⟩ := PySem.W.readsAll_at ra i u hi'
      have det := (reads_det (h := s.heap) (h' := h') (fun b o q _ => hk b o q) r2 hR).1
      have hj : i < (e :: es).length := hlt
      obtain ⟨y, hy1, hy2⟩ := ha.get (i := i) (d := (e :: es)[i]) (List.getElem?_eq_getElem hj)
      obtain ⟨u2, hu1, hu2⟩ := Vals.get rv hy1
      rw [hi'] at hu1
      cases hu1
      have ed : (e :: es)[i] = PySem.W.minD e es := by
        rw [det, List.getD_eq_getElem?_getD, List.getElem?_eq_getElem hj]; rfl
      rw [ed] at hy2
      exact ⟨y, H, I.kept hk, hu2, hq y H F (Ext.refl sf) hy2⟩
  · cases hg
theorem cb_maxD {k : Nat} (hr : Room k X.A) : CallR X (.builtin "max") (rCV X bMaxD) := by
  intro pins s σ H xs us Q I r h
  obtain ⟨F, ds, d, sf, hv, hg, hq⟩ := h
  unfold bMaxD at hg
  split at hg
  · rename_i e es
    by_cases hp : mmOk (e :: es)
    case neg => rw [if_neg hp] at hg; cases hg
    rw [if_pos hp] at hg
    cases hg
    obtain ⟨v, rfl, h1⟩ := vd1 hv
    cases h1 with
    | @lst a ys _ hs hz ha =>
      rw [Vals.ref1 r]
      obtain ⟨its, rv, hl, hz'⟩ := I.list (sf.seq hs)
      have hun := hr.un
      have hdp := depthAll_mm hp.2
      obtain ⟨as, ra⟩ := Dp.readsAll I (e :: es) ys its (vd_all_dp (VdAll.mono sf _ _ ha)) rv
      refine PySem.W.max_list_data hr.hd hl.isList (by rw [List.toList_toArray]; exact ra) hp.1 (by omega) fun i u h' tk bs hi hR hk => ?_
      have hi' : its[i]? = some u := by simpa using hi
      obtain ⟨bs2, r2, hlt, _⟩ := PySem.W.readsAll_at ra i u hi'
      have det := (reads_det (h := s.heap) (h' := h') (fun b o q _ => hk b o q) r2 hR).1
      have hj : i < (e :: es).length := hlt
      obtain ⟨y, hy1, hy2⟩ := ha.get (i := i) (d := (e :: es)[i]) (List.getElem?_eq_getElem hj)
      obtain ⟨u2, hu1, hu2⟩ := Vals.get rv hy1
      rw [hi'] at hu1
      cases hu1
      have ed : (e :: es)[i] = PySem.W.maxD e es := by
        rw [det, List.getD_eq_getElem?_getD, List.getElem?_eq_getElem hj]; rfl
      rw [ed] at hy2
      exact ⟨y, H, I.kept hk, hu2, hq y H F (Ext.refl sf) hy2⟩
  · cases hg
end

theorem lt_not_le (x y : Int × Int) : PySem.W.dataLt (pr x) (pr y) = !leP y x := by
  rw [dataLt_pr]
  unfold leP
  rcases Int.lt_trichotomy x.1 y.1 with h | h | h
  · rw [decide_eq_true h, decide_eq_false (show ¬ y.1 < x.1 by omega), decide_eq_false (show ¬ y.1 = x.1 by omega)]; rfl
  · rw [decide_eq_false (show ¬ x.1 < y.1 by omega), decide_eq_true h, decide_eq_false (show ¬ y.1 < x.1 by omega), decide_eq_true h.symm]
    by_cases c : x.2 < y.2
    · rw [decide_eq_true c, decide_eq_false (show ¬ y.2 ≤ x.2 by omega)]; rfl
    · rw [decide_eq_false c, decide_eq_true (show y.2 ≤ x.2 by omega)]; rfl
  · rw [decide_eq_false (show ¬ x.1 < y.1 by omega), decide_eq_false (show ¬ x.1 = y.1 by omega), decide_eq_true h]; rfl
theorem leP_refl (x : Int × Int) : leP x x = true := by
  unfold leP
  rw [decide_eq_true (show x.1 = x.1 from rfl), decide_eq_true (Int.le_refl _)]; simp
theorem leP_iff (x y : Int × Int) : leP x y = true ↔ x.1 < y.1 ∨ (x.1 = y.1 ∧ x.2 ≤ y.2) := by
  unfold leP
  simp
theorem leP_trans {x y z : Int × Int} (h1 : leP x y = true) (h2 : leP y z = true) : leP x z = true := by
  rw [leP_iff] at *
  omega
theorem leP_total (x y : Int × Int) : leP x y = true ∨ leP y x = true := by
  rw [leP_iff, leP_iff]
  omega
theorem minD_pr (p : Int × Int) : ∀ ps : List (Int × Int), ∃ m, m ∈ p :: ps ∧ PySem.W.minD (pr p) (ps.map pr) = pr m ∧ ∀ y ∈ p :: ps, leP m y = true := by
  intro ps
  induction ps generalizing p with
  | nil => exact ⟨p, List.mem_cons_self .., rfl, fun y hy => by
      rw [List.mem_singleton] at hy
      rw [hy]; exact leP_refl p⟩
  | cons q r ih =>
    have e : PySem.W.minD (pr p) ((q :: r).map pr) = PySem.W.minD (if PySem.W.dataLt (pr q) (pr p) then pr q else pr p) (r.map pr) := rfl
    rw [e, lt_not_le]
    by_cases c : leP p q = true
    · rw [c]
      obtain ⟨m, h1, h2, h3⟩ := ih p
      refine ⟨m, ?_, by simpa using h2, fun y hy => ?_⟩
      · rcases List.mem_cons.mp h1 with h | h
        · rw [h]; exact List.mem_cons_self ..
        · exact List.mem_cons_of_mem _ (List.mem_cons_of_mem _ h)
      · rcases List.mem_cons.mp hy with h | h
        · rw [h]; exact h3 p (List.mem_cons_self ..)
        · rcases List.mem_cons.mp h with h | h
          · rw [h]; exact leP_trans (h3 p (List.mem_cons_self ..)) c
          · exact h3 y (List.mem_cons_of_mem _ h)
    · have c' : leP p q = false := by simpa using c
      rw [c']
      obtain ⟨m, h1, h2, h3⟩ := ih q
      refine ⟨m, List.mem_cons_of_mem _ h1, by simpa using h2, fun y hy => ?_⟩
      rcases List.mem_cons.mp hy with h | h
      · rw [h]
        refine leP_trans (h3 q (List.mem_cons_self ..)) ?_
        rcases leP_total p q with t | t
        · exact absurd t c
        · exact t
      · exact h3 y h
theorem min_pr {ps : List (Int × Int)} (h : ps ≠ []) : ∃ m, m ∈ ps ∧ bMinD [.list (ps.map pr)] = some (pr m) ∧ ∀ y ∈ ps, leP m y = true := by
  cases ps with
  | nil => exact absurd rfl h
  | cons p r =>
    obtain ⟨m, h1, h2, h3⟩ := minD_pr p r
    have ok : mmOk (pr p :: r.map pr) := by
      have hm : ∀ d ∈ pr p :: r.map pr, ∃ x, d = pr x := fun d hd => by
        rcases List.mem_cons.mp hd with e | e
        · exact ⟨p, e⟩
        · obtain ⟨x, _, rfl⟩ := List.mem_map.mp e
          exact ⟨x, rfl⟩
      refine ⟨⟨fun d hd d' hd' => ?_, fun d hd => ?_⟩, fun d hd => ?_⟩
      · obtain ⟨x, rfl⟩ := hm d hd
        obtain ⟨y, rfl⟩ := hm d' hd'
        simp [PySem.W.alike, PySem.W.alikeAll]
      · obtain ⟨x, rfl⟩ := hm d hd
        exact fun e => nomatch e
      · obtain ⟨x, rfl⟩ := hm d hd
        simp [PyData.depth, PyData.depthAll]
    refine ⟨m, h1, ?_, h3⟩
    rw [← h2]
    unfold bMinD
    exact if_pos ok
end PV
namespace PV
open PySem PySem.Spec PySem.Calls PyProof.Rows L2
/-! ### is True, is False -/
def pIsB : PyData → PyData → Option PyData
  | .bool a, .bool b => some (.bool (decide (a = b)))
  | _, _ => none
def pIsNotB : PyData → PyData → Option PyData
  | .bool a, .bool b => some (.bool (!decide (a = b)))
  | _, _ => none
section
variable {X : Cx}
theorem opv_isb : OpV X (compareOp .Is) pIsB := by
  intro pins s σ H x y v u Q I rx ry F d e r sf hx hy hg hq
  cases hx with
  | bl a => cases hy with
    | bl b =>
      cases hg
      exact op_isBl pins s σ H _ _ v u Q I rx ry ⟨a, b, rfl, rfl, hq _ _ F (Ext.refl sf) (.bl _)⟩
    | _ => cases hg
  | _ => cases hg
theorem opv_isnotb : OpV X (compareOp .IsNot) pIsNotB := by
  intro pins s σ H x y v u Q I rx ry F d e r sf hx hy hg hq
  cases hx with
  | bl a => cases hy with
    | bl b =>
      cases hg
      exact op_notBl pins s σ H _ _ v u Q I rx ry ⟨a, b, rfl, rfl, hq _ _ F (Ext.refl sf) (.bl _)⟩
    | _ => cases hg
  | _ => cases hg
end
@[simp] theorem d_isB (a b : Bool) : pIsB (.bool a) (.bool b) = some (.bool (decide (a = b))) := nr rfl
@[simp] theorem d_isNB (a b : Bool) : pIsNotB (.bool a) (.bool b) = some (.bool (!decide (a = b))) := nr rfl
end PV
namespace PV
open PySem PySem.Spec PySem.Calls PyProof.Rows L2
/-! ### list + list, as a fresh list -/
def mCat (fa fb : Evn → RE PyData) (ρ : Evn) : RE (List PyData) := (fa ρ).bind fun x => (fb ρ).bind fun y => match x, y with
  | .list xs, .list ys => if xs.length + ys.length ≤ sizeLine then .ok (xs ++ ys) else .bad
  | _, _ => .bad
section
variable {X : Cx} {P : Pm} {a b : Expr} {fa fb : Evn → RE PyData} {pos : Pos}
theorem vf_cat (ha : VE X P a fa) (hb : VE X P b fb) : VF X P (.BinOp a .Add b pos) (mCat fa fb) := PE_mono (pe_op op_catS ha hb) fun σ H Q h => by
  obtain ⟨ρ, F, hR, h⟩ := h
  refine OutF.first hR h fun d v F1 H1 e1 hv R1 h1 => ?_
  refine OutF.first R1 h1 fun d2 v2 F2 H2 e2 hv2 R2 h2 => ?_
  have hv := Vd.mono e2.ff d v hv
  cases hv with
  | @lst l xs ds hs hz hd =>
    cases hv2 with
    | @lst l2 ys es hs2 hz2 hd2 =>
      have l1 := hd.length
      have l2 := hd2.length
      have h2' : OutF X P σ Q F2 H2 (if ds.length + es.length ≤ sizeLine then .ok (ds ++ es) else .bad) := h2
      by_cases hp : ds.length + es.length ≤ sizeLine
      · rw [if_pos hp] at h2'
        exact ⟨_, _, _, _, rfl, rfl, R2.fh.seq hs, R2.fh.seq hs2, by omega, OutF.new R2.fh h2' (by rw [List.length_append]; omega) (hd.append hd2)⟩
      · rw [if_neg hp] at h2'; exact h2'.elim
    | _ => exact h2.elim
  | _ => cases hv2 <;> exact h2.elim
end
@[simp] theorem e_mCat (fa fb : Evn → RE PyData) (ρ : Evn) : mCat fa fb ρ = (fa ρ).bind fun x => (fb ρ).bind fun y => match x, y with
  | .list xs, .list ys => if xs.length + ys.length ≤ sizeLine then .ok (xs ++ ys) else .bad
  | _, _ => .bad := nr rfl
end PV
end
section
set_option Elab.async false
set_option linter.all false
set_option maxRecDepth 100000
set_option maxHeartbeats 4000000
/-! VZ: what a meaning gives, in plain Lean with types: rules that a program (tgen.py) puts together. -/
namespace PV
open PySem

/-! ### what is known of the names: some c, just this; none, anything -/
abbrev Pt := List (Option Cel)
inductive Sh : Pt → Evn → Prop
  | nil : Sh [] []
  | any {p : Pt} {ρ : Evn} {o : Option Cel} : Sh p ρ → Sh (none :: p) (o :: ρ)
  | is {p : Pt} {ρ : Evn} {c : Cel} : Sh p ρ → Sh (some c :: p) (some c :: ρ)
def atP : Pt → Nat → Option Cel
  | [], _ => none
  | c :: _, 0 => c
  | _ :: r, n + 1 => atP r n
def stP : Pt → Nat → Option Cel → Pt
  | [], _, _ => []
  | _ :: r, 0, x => x :: r
  | c :: r, n + 1, x => c :: stP r n x
def fzC : Option Cel → Option Cel
  | some (.own ds) => some (.val (.list ds))
  | c => c
def fzP : Nat → Pt → Pt
  | _, [] => []
  | 0, c :: r => fzC c :: r
  | n + 1, c :: r => c :: fzP n r
def wpP (p : Pt) : List Nat → Pt
  | [] => p
  | v :: vs => stP (wpP p vs) v none
theorem Sh.get {p : Pt} {ρ : Evn} (h : Sh p ρ) : ∀ {i : Nat} {c : Cel}, atP p i = some c → ρ[i]? = some (some c) := by
  induction h with
  | nil => intro i c e; cases e
  | any _ ih => intro i c e; cases i with
    | zero => cases e
    | succ n => rw [List.getElem?_cons_succ]; exact ih e
  | is _ ih => intro i c e; cases i with
    | zero => cases e; rfl
    | succ n => rw [List.getElem?_cons_succ]; exact ih e
theorem Sh.st {p : Pt} {ρ : Evn} (h : Sh p ρ) : ∀ {i : Nat} {c : Cel}, Sh (stP p i (some c)) (ρ.set i (some c)) := by
  induction h with
  | nil => intro i c; exact .nil
  | any t ih => intro i c; cases i with
    | zero => exact .is t
    | succ n => exact .any ih
  | is t ih => intro i c; cases i with
    | zero => exact .is t
    | succ n => exact .is ih
theorem Sh.stN {p : Pt} {ρ : Evn} (h : Sh p ρ) : ∀ {i : Nat} {o : Option Cel}, Sh (stP p i none) (ρ.set i o) := by
  induction h with
  | nil => intro i c; exact .nil
  | any t ih => intro i c; cases i with
    | zero => exact .any t
    | succ n => exact .any ih
  | is t ih => intro i c; cases i with
    | zero => exact .any t
    | succ n => exact .is ih
theorem Sh.wp {p : Pt} {ρ : Evn} (h : Sh p ρ) : ∀ vs : List Nat, Sh (wpP p vs) (wipeE ρ vs)
  | [] => h
  | _ :: vs => (Sh.wp h vs).stN
theorem Sh.fz {p : Pt} {ρ : Evn} (h : Sh p ρ) : ∀ {i : Nat}, Sh (fzP i p) (freeze i ρ) := by
  intro i
  rw [fz_eq]
  induction h generalizing i with
  | nil => cases i <;> exact .nil
  | @any p ρ o t ih => cases i with
    | zero =>
      have : ∃ o', fzE (o :: ρ) 0 = o' :: ρ := by rcases o with _ | ⟨_ | _ | _⟩ <;> exact ⟨_, rfl⟩
      obtain ⟨o', e⟩ := this
      rw [e]
      exact .any t
    | succ n => rw [fz_s]; exact .any ih
  | @is p ρ c t ih => cases i with
    | zero => cases c <;> exact .is t
    | succ n => rw [fz_s]; exact .is ih
/-- less is known -/
inductive Sb : Pt → Pt → Prop
  | nil : Sb [] []
  | any {p q : Pt} {c : Option Cel} : Sb p q → Sb (c :: p) (none :: q)
  | is {p q : Pt} {c : Option Cel} : Sb p q → Sb (c :: p) (c :: q)
theorem Sb.sh {p q : Pt} (h : Sb p q) : ∀ {ρ : Evn}, Sh p ρ → Sh q ρ := by
  induction h with
  | nil => intro ρ h; exact h
  | any _ ih => intro ρ h; cases h with
    | any t => exact .any (ih t)
    | is t => exact .any (ih t)
  | is _ ih => intro ρ h; cases h with
    | any t => exact .any (ih t)
    | is t => exact .is (ih t)
def ptE (N : Nat) (ds : List PyData) : Pt := ds.map (fun d => some (.val d)) ++ List.replicate (N - ds.length) none
theorem sh_rep : ∀ n : Nat, Sh (List.replicate n none) (List.replicate n none)
  | 0 => .nil
  | n + 1 => .any (sh_rep n)
theorem sh_start (N : Nat) (ds : List PyData) : Sh (ptE N ds) (startE N ds) := by
  unfold ptE startE
  generalize N - ds.length = k
  induction ds with
  | nil => exact sh_rep k
  | cons d r ih => exact .is ih

/-! ### expressions -/
def TM {α : Type} (p : Pt) (m : Evn → RE α) (a : α) : Prop := ∀ ρ, Sh p ρ → m ρ = .ok a
section
variable {p : Pt} {α β : Type} {f fa fb fc : Evn → RE PyData} {d x y z : PyData} {g : Evn → RE (List PyData)} {ds : List PyData}
theorem t_get {i : Nat} (h : atP p i = some (.val d)) : TM p (mGet i) d := fun ρ hs => by
  unfold mGet
  rw [hs.get h]
theorem t_c : TM p (mC d) d := fun _ _ => rfl
theorem t_2 {o : PyData → PyData → Option PyData} (ha : TM p fa x) (hb : TM p fb y) (h : o x y = some z) : TM p (m2 o fa fb) z := fun ρ hs => by
  rw [e_m2, ha ρ hs, bind_ok, hb ρ hs, bind_ok, h, ofO_some]
theorem t_1 {o : PyData → Option PyData} (ha : TM p fa x) (h : o x = some z) : TM p (m1 o fa) z := fun ρ hs => by
  rw [e_m1, ha ρ hs, bind_ok, h, ofO_some]
theorem t_and {b c : Bool} (ha : TM p fa (.bool b)) (hb : b = true → TM p fb (.bool c)) : TM p (mAnd fa fb) (.bool (b && c)) := fun ρ hs => by
  rw [e_mAnd, ha ρ hs, bind_ok, d_toB, ofO_some, bind_ok]
  cases b with
  | true => rw [if_pos rfl, hb rfl ρ hs, Bool.true_and]
  | false => rw [if_neg (by decide), Bool.false_and]
theorem t_or {b c : Bool} (ha : TM p fa (.bool b)) (hb : b = false → TM p fb (.bool c)) : TM p (mOr fa fb) (.bool (b || c)) := fun ρ hs => by
  rw [e_mOr, ha ρ hs, bind_ok, d_toB, ofO_some, bind_ok]
  cases b with
  | false => rw [if_neg (by decide), hb rfl ρ hs, Bool.false_or]
  | true => rw [if_pos rfl, Bool.true_or]
theorem t_if {e : α → PyData} {t : Evn → RE Bool} {c : Bool} {u v : α} (hc : TM p t c) (ha : c = true → TM p fa (e u)) (hb : c = false → TM p fb (e v)) : TM p (mIf t fa fb) (e (if c = true then u else v)) := fun ρ hs => by
  rw [e_mIf, hc ρ hs, bind_ok]
  cases c with
  | true => rw [if_pos rfl, if_pos rfl, ha rfl ρ hs]
  | false => rw [if_neg (by decide), if_neg (by decide), hb rfl ρ hs]
theorem t_chain {o o' : PyData → PyData → Option PyData} {b c : Bool} (ha : TM p fa x) (hb : TM p fb y) (h : o x y = some (.bool b)) (hc : b = true → TM p fc z) (h' : b = true → o' y z = some (.bool c)) : TM p (mChain o o' fa fb fc) (.bool (b && c)) := fun ρ hs => by
  rw [e_mChain, ha ρ hs, bind_ok, hb ρ hs, bind_ok, h, ofO_some, bind_ok, d_toB, ofO_some, bind_ok]
  cases b with
  | true => rw [if_pos rfl, hc rfl ρ hs, bind_ok, h' rfl, ofO_some, Bool.true_and]
  | false => rw [if_neg (by decide), Bool.false_and]
theorem t_nil : TM p mNil [] := fun _ _ => rfl
theorem t_cons (h : TM p f d) (hs : TM p g ds) : TM p (mCons f g) (d :: ds) := fun ρ sh => by
  rw [e_mCons, h ρ sh, bind_ok, hs ρ sh, bind_ok]
theorem t_seq {k : List PyData → RE PyData} (h : TM p g ds) (hk : k ds = .ok d) : TM p (mSeq k g) d := fun ρ hs => by
  rw [e_mSeq, h ρ hs, bind_ok, hk]
theorem t_cal0 {k : List PyData → RE PyData} (hk : k [] = .ok d) : TM p (fun _ => k []) d := fun ρ hs => hk
theorem t_call {b : List PyData → Option PyData} (h : TM p g ds) (hk : b ds = some d) : TM p (mCall b g) d := fun ρ hs => by
  rw [e_mCall, h ρ hs, bind_ok, hk, ofO_some]
theorem t_no : TM p mNo none := fun _ _ => rfl
theorem t_part {i : Int} (h : TM p f (.int i)) : TM p (mPart f) (some i) := fun ρ hs => by
  rw [e_mPart, h ρ hs, bind_ok, d_toI, ofO_some, bind_ok]
theorem t_cut {l h : Evn → RE (Option Int)} {lo hi : Option Int} (hd : TM p f d) (hl : TM p l lo) (hh : TM p h hi) (hk : pCut d lo hi = some z) : TM p (mCut f l h) z := fun ρ hs => by
  rw [e_mCut, hd ρ hs, bind_ok, hl ρ hs, bind_ok, hh ρ hs, bind_ok, hk, ofO_some]
theorem t_is {T : Ty} {b : Bool} (h : TM p f d) (hb : isTy T d = b) : TM p (mIs T f) (.bool b) := fun ρ hs => by
  rw [e_mIs, h ρ hs, bind_ok, hb]
theorem t_is2 {T U : Ty} {b : Bool} (h : TM p f d) (hb : (isTy T d || isTy U d) = b) : TM p (mIs2 T U f) (.bool b) := fun ρ hs => by
  rw [e_mIs2, h ρ hs, bind_ok, hb]
theorem t_L (h : TM p g ds) : TM p (mL g) (.list ds) := fun ρ hs => by
  rw [e_mL, h ρ hs, bind_ok]
theorem t_dsp (h : TM p g ds) (hl : ds.length ≤ sizeLine) : TM p (mDsp g) ds := fun ρ hs => by
  rw [e_mDsp, h ρ hs, bind_ok, if_pos hl]
theorem t_rep {k : Int} (h : TM p g ds) (hl : ds.length ≤ sizeLine) (hf : TM p f (.int k)) (hr : repOk ds.length k) : TM p (mRep g f) (List.replicate k.toNat ds).flatten := fun ρ hs => by
  rw [e_mRep, t_dsp h hl ρ hs, bind_ok, hf ρ hs, bind_ok, d_rep, if_pos hr]
theorem t_bind {k : PyData → RE (List PyData)} (h : TM p f d) (hk : k d = .ok ds) : TM p (mBind f k) ds := fun ρ hs => by
  rw [e_mBind, h ρ hs, bind_ok, hk]
theorem t_ixO {i : Nat} {es : List PyData} (h : atP p i = some (.own es)) (hf : TM p f y) (hk : pIdx (.list es) y = some z) : TM p (mIxO i f) z := fun ρ hs => by
  unfold mIxO
  rw [hs.get h]
  show ((f ρ).bind fun k => ofO (pIdx (.list es) k)) = _
  rw [hf ρ hs, bind_ok, hk, ofO_some]
theorem t_ixV {i : Nat} (h : atP p i = some (.val x)) (hf : TM p f y) (hk : pIdx x y = some z) : TM p (mIxO i f) z := fun ρ hs => by
  unfold mIxO
  rw [hs.get h]
  show ((f ρ).bind fun k => ofO (pIdx x k)) = _
  rw [hf ρ hs, bind_ok, hk, ofO_some]
theorem t_bor {i : Nat} (h : TM (fzP i p) f d) (hd : scal d = true) : TM p (mBor i f) d := fun ρ hs => by
  rw [e_mBor, h _ hs.fz, bind_ok, if_pos hd]
theorem t_borB {i : Nat} {t : Evn → RE Bool} {b : Bool} (h : TM (fzP i p) t b) : TM p (mBorB i t) b := fun ρ hs => by
  rw [e_mBorB]
  exact h _ hs.fz
theorem t_items (h : TM p f d) (hd : itemsOf d = some ds) : TM p (mItems f) ds := fun ρ hs => by
  rw [e_mItems, h ρ hs, bind_ok, hd, ofO_some]
theorem t_wk {w : List PyData → Option (List PyData)} {es : List PyData} (h : TM p g es) (hd : w es = some ds) : TM p (mWk w g) ds := fun ρ hs => by
  rw [e_mWk, h ρ hs, bind_ok, hd, ofO_some]
theorem t_rev (h : TM p f d) (hd : rev1 d = some ds) : TM p (mRev f) ds := fun ρ hs => by
  rw [e_mRev, h ρ hs, bind_ok, hd, ofO_some]
theorem t_T {b : Bool} (h : TM p f d) (hd : truth d = some b) : TM p (mT f) b := fun ρ hs => by
  rw [e_mT, h ρ hs, bind_ok, hd, ofO_some]
theorem t_B {b : Bool} (h : TM p f (.bool b)) : TM p (mB f) b := fun ρ hs => by
  rw [e_mB, h ρ hs, bind_ok, d_toB, ofO_some]
theorem t_andB {ta tb : Evn → RE Bool} {b c : Bool} (ha : TM p ta b) (hb : b = true → TM p tb c) : TM p (mAndB ta tb) (b && c) := fun ρ hs => by
  rw [e_mAndB, ha ρ hs, bind_ok]
  cases b with
  | true => rw [if_pos rfl, hb rfl ρ hs, Bool.true_and]
  | false => rw [if_neg (by decide), Bool.false_and]
theorem t_orB {ta tb : Evn → RE Bool} {b c : Bool} (ha : TM p ta b) (hb : b = false → TM p tb c) : TM p (mOrB ta tb) (b || c) := fun ρ hs => by
  rw [e_mOrB, ha ρ hs, bind_ok]
  cases b with
  | false => rw [if_neg (by decide), hb rfl ρ hs, Bool.false_or]
  | true => rw [if_pos rfl, Bool.true_or]
theorem t_notB {t : Evn → RE Bool} {b : Bool} (h : TM p t b) : TM p (mNotB t) (!b) := fun ρ hs => by
  rw [e_mNotB, h ρ hs, bind_ok]
theorem t_yes : TM p mYes true := fun _ _ => rfl
theorem t_lrg1 {j : Int} (h : TM p f (.int j)) (hk : lrgOk 0 j) : TM p (mLrg1 f) (rangeL 0 (j - 0).toNat) := fun ρ hs => by
  rw [e_mLrg1, h ρ hs, bind_ok, d_lrg, if_pos hk]
theorem t_lrg2 {i j : Int} (h : TM p fa (.int i)) (h' : TM p fb (.int j)) (hk : lrgOk i j) : TM p (mLrg2 fa fb) (rangeL i (j - i).toNat) := fun ρ hs => by
  rw [e_mLrg2, h ρ hs, bind_ok, h' ρ hs, bind_ok, d_lrg, if_pos hk]
theorem t_cast {m : Evn → RE α} {a b : α} (h : TM p m a) (e : a = b) : TM p m b := e ▸ h
end

/-! ### targets -/
def TG (p : Pt) (m : PyData → Evn → Option Evn) (d : PyData) (q : Pt) : Prop := ∀ ρ, Sh p ρ → ∃ ρ', m d ρ = some ρ' ∧ Sh q ρ'
def TGs (p : Pt) (m : List PyData → Evn → Option Evn) (ds : List PyData) (q : Pt) : Prop := ∀ ρ, Sh p ρ → ∃ ρ', m ds ρ = some ρ' ∧ Sh q ρ'
section
variable {p q q' : Pt} {d : PyData} {ds : List PyData} {m : PyData → Evn → Option Evn} {ms : List PyData → Evn → Option Evn}
theorem tg_n {i : Nat} : TG p (gN i) d (stP p i (some (.val d))) := fun ρ hs => ⟨_, rfl, hs.st⟩
theorem tg_t {n : Nat} (h : TGs p ms ds q) (hl : ds.length = n) : TG p (gT n ms) (.tuple ds) q := fun ρ hs => by
  obtain ⟨ρ', h1, h2⟩ := h ρ hs
  exact ⟨ρ', by rw [e_gTt, if_pos hl, h1], h2⟩
theorem tg_l {n : Nat} (h : TGs p ms ds q) (hl : ds.length = n) : TG p (gT n ms) (.list ds) q := fun ρ hs => by
  obtain ⟨ρ', h1, h2⟩ := h ρ hs
  exact ⟨ρ', by rw [e_gTl, if_pos hl, h1], h2⟩
theorem tg_e : TGs p gE [] p := fun ρ hs => ⟨ρ, rfl, hs⟩
theorem tg_c (h : TG p m d q) (h' : TGs q ms ds q') : TGs p (gC m ms) (d :: ds) q' := fun ρ hs => by
  obtain ⟨ρ1, h1, h2⟩ := h ρ hs
  obtain ⟨ρ2, h3, h4⟩ := h' ρ1 h2
  exact ⟨ρ2, by rw [e_gC, h1, Option.bind_some, h3], h4⟩
end

/-! ### comprehensions -/
section
variable {p : Pt} {α β : Type} {w : Evn → RE (List PyData)} {g : PyData → Evn → Option Evn} {tt : Evn → RE Bool} {el : Evn → RE PyData} {vs : List Nat} {e : α → PyData} {e' : β → PyData} {xs : List α} {q : α → Pt}
theorem t_lc0 {f : α → β} (hw : TM p w (xs.map e)) (hl : xs.length ≤ sizeLine) (hg : ∀ x, TG (wpP p vs) g (e x) (q x)) (he : ∀ x ∈ xs, TM (q x) el (e' (f x))) : TM p (mLc w g mYes el vs) ((xs.map f).map e') := fun ρ hs => by
  rw [e_mLc, hw ρ hs, bind_ok, if_pos (by rw [List.length_map]; exact hl)]
  rw [lcM_all (dec := e) (fun x => e' (f x)) (fun x hx => by
    obtain ⟨ρ', h1, h2⟩ := hg x _ (hs.wp vs)
    exact ⟨ρ', h1, he x hx _ h2⟩), List.map_map]
  rfl
theorem t_lc {t : α → Bool} {f : α → β} (hw : TM p w (xs.map e)) (hl : xs.length ≤ sizeLine) (hg : ∀ x, TG (wpP p vs) g (e x) (q x)) (ht : ∀ x ∈ xs, TM (q x) tt (t x)) (he : ∀ x ∈ xs, t x = true → TM (q x) el (e' (f x))) : TM p (mLc w g tt el vs) (((xs.filter t).map f).map e') := fun ρ hs => by
  rw [e_mLc, hw ρ hs, bind_ok, if_pos (by rw [List.length_map]; exact hl)]
  rw [lcM_map (dec := e) t (fun x => e' (f x)) (fun x hx => by
    obtain ⟨ρ', h1, h2⟩ := hg x _ (hs.wp vs)
    exact ⟨ρ', h1, ht x hx _ h2, fun hp => he x hx hp _ h2⟩), List.map_map]
  rfl
end

/-! ### types and their data -/
abbrev idD : PyData → PyData := fun d => d
abbrev eN : Unit → PyData := fun _ => .none
abbrev encL {α : Type} (e : α → PyData) (xs : List α) : PyData := .list (xs.map e)
abbrev encU {α : Type} (e : α → PyData) (xs : List α) : PyData := .tuple (xs.map e)
abbrev encO {α : Type} (e : α → PyData) (x : Option α) : PyData := match x with
  | none => .none
  | some a => e a
abbrev enc2 {α β : Type} (a : α → PyData) (b : β → PyData) (x : α × β) : PyData := .tuple [a x.1, b x.2]
abbrev enc3 {α β γ : Type} (a : α → PyData) (b : β → PyData) (c : γ → PyData) (x : α × β × γ) : PyData := .tuple [a x.1, b x.2.1, c x.2.2]
abbrev enc4 {α β γ δ : Type} (a : α → PyData) (b : β → PyData) (c : γ → PyData) (d : δ → PyData) (x : α × β × γ × δ) : PyData := .tuple [a x.1, b x.2.1, c x.2.2.1, d x.2.2.2]
abbrev enc5 {α β γ δ ε : Type} (a : α → PyData) (b : β → PyData) (c : γ → PyData) (d : δ → PyData) (f : ε → PyData) (x : α × β × γ × δ × ε) : PyData := .tuple [a x.1, b x.2.1, c x.2.2.1, d x.2.2.2.1, f x.2.2.2.2]
abbrev enc6 {α β γ δ ε ζ : Type} (a : α → PyData) (b : β → PyData) (c : γ → PyData) (d : δ → PyData) (f : ε → PyData) (g : ζ → PyData) (x : α × β × γ × δ × ε × ζ) : PyData := .tuple [a x.1, b x.2.1, c x.2.2.1, d x.2.2.2.1, f x.2.2.2.2.1, g x.2.2.2.2.2]
theorem t_some {p : Pt} {α : Type} {e : α → PyData} {f : Evn → RE PyData} {a : α} (h : TM p f (e a)) : TM p f (encO e (some a)) := h
theorem t_unO {p : Pt} {α : Type} {e : α → PyData} {f : Evn → RE PyData} {x : Option α} {d : α} (h : TM p f (encO e x)) (hx : x.isSome = true) : TM p f (e (x.getD d)) := by
  cases x with
  | none => cases hx
  | some a => exact h

/-! likeness -/
structure EqE {α : Type} [DecidableEq α] (n : Nat) (e : α → PyData) : Prop where
  ev : ∀ a b, PyData.eqv (e a) (e b) = decide (a = b)
  dp : ∀ a, (e a).depth ≤ n
theorem eqe_I : EqE 0 PyData.int := ⟨fun a b => by simp only [PyData.eqv]; exact PySem.W.beq_decide a b, fun _ => Nat.le_refl _⟩
theorem eqe_B : EqE 0 PyData.bool := ⟨fun a b => by simp only [PyData.eqv]; exact PySem.W.beq_decide a b, fun _ => Nat.le_refl _⟩
theorem eqe_S : EqE 0 PyData.str := ⟨fun a b => by simp only [PyData.eqv]; exact PySem.W.beq_decide a b, fun _ => Nat.le_refl _⟩
theorem eqe_N : EqE 0 eN := ⟨fun a b => by simp only [PyData.eqv]; rfl, fun _ => Nat.le_refl _⟩
section
variable {α β γ δ ε : Type} [DecidableEq α] [DecidableEq β] [DecidableEq γ] [DecidableEq δ] [DecidableEq ε] {n m k l j : Nat} {e : α → PyData} {f : β → PyData} {g : γ → PyData} {h : δ → PyData} {o : ε → PyData}
theorem eqvAll_map (he : EqE n e) : ∀ xs ys : List α, PyData.eqvAll (xs.map e) (ys.map e) = decide (xs = ys)
  | [], [] => by simp only [List.map_nil, PyData.eqvAll]; rfl
  | [], y :: ys => by simp only [List.map_nil, List.map_cons, PyData.eqvAll]; simp
  | x :: xs, [] => by simp only [List.map_nil, List.map_cons, PyData.eqvAll]; simp
  | x :: xs, y :: ys => by
    simp only [List.map_cons, PyData.eqvAll]
    rw [he.ev, eqvAll_map he xs ys]
    by_cases h1 : x = y <;> by_cases h2 : xs = ys <;> simp [h1, h2]
theorem eqe_L (he : EqE n e) : EqE (n + 1) (encL e) := ⟨fun a b => by simp only [PyData.eqv]; exact eqvAll_map he a b, fun a => by
  simp only [PyData.depth]
  refine Nat.succ_le_succ (depthAll_le fun x hx => ?_)
  obtain ⟨y, _, rfl⟩ := List.mem_map.mp hx
  exact he.dp y⟩
theorem eqe_U (he : EqE n e) : EqE (n + 1) (encU e) := ⟨fun a b => by simp only [PyData.eqv]; exact eqvAll_map he a b, fun a => by
  simp only [PyData.depth]
  refine Nat.succ_le_succ (depthAll_le fun x hx => ?_)
  obtain ⟨y, _, rfl⟩ := List.mem_map.mp hx
  exact he.dp y⟩
theorem eqe_2 (he : EqE n e) (hf : EqE m f) : EqE (max n m + 1) (enc2 e f) := ⟨fun a b => by
  simp only [PyData.eqv, PyData.eqvAll, he.ev, hf.ev]
  obtain ⟨a1, a2⟩ := a
  obtain ⟨b1, b2⟩ := b
  by_cases h1 : a1 = b1 <;> by_cases h2 : a2 = b2 <;> simp [h1, h2], fun a => by
  simp only [PyData.depth, PyData.depthAll]
  have h1 := he.dp a.1
  have h2 := hf.dp a.2
  omega⟩
theorem eqe_3 (he : EqE n e) (hf : EqE m f) (hg : EqE k g) : EqE (max n (max m k) + 1) (enc3 e f g) := ⟨fun a b => by
  simp only [PyData.eqv, PyData.eqvAll, he.ev, hf.ev, hg.ev]
  obtain ⟨a1, a2, a3⟩ := a
  obtain ⟨b1, b2, b3⟩ := b
  by_cases h1 : a1 = b1 <;> by_cases h2 : a2 = b2 <;> by_cases h3 : a3 = b3 <;> simp [h1, h2, h3], fun a => by
  simp only [PyData.depth, PyData.depthAll]
  have h1 := he.dp a.1
  have h2 := hf.dp a.2.1
  have h3 := hg.dp a.2.2
  omega⟩
theorem eqe_4 (he : EqE n e) (hf : EqE m f) (hg : EqE k g) (hh : EqE l h) : EqE (max n (max m (max k l)) + 1) (enc4 e f g h) := ⟨fun a b => by
  simp only [PyData.eqv, PyData.eqvAll, he.ev, hf.ev, hg.ev, hh.ev]
  obtain ⟨a1, a2, a3, a4⟩ := a
  obtain ⟨b1, b2, b3, b4⟩ := b
  by_cases h1 : a1 = b1 <;> by_cases h2 : a2 = b2 <;> by_cases h3 : a3 = b3 <;> by_cases h4 : a4 = b4 <;> simp [h1, h2, h3, h4], fun a => by
  simp only [PyData.depth, PyData.depthAll]
  have h1 := he.dp a.1
  have h2 := hf.dp a.2.1
  have h3 := hg.dp a.2.2.1
  have h4 := hh.dp a.2.2.2
  omega⟩
/-- no datum of the type is None -/
def NnE (e : α → PyData) : Prop := ∀ a, isNone (e a) = false
theorem nn_I : NnE PyData.int := fun _ => rfl
theorem nn_B : NnE PyData.bool := fun _ => rfl
theorem nn_S : NnE PyData.str := fun _ => rfl
theorem eqv_none {d : PyData} (h : isNone d = false) : PyData.eqv d .none = false ∧ PyData.eqv .none d = false := by
  cases d with
  | none => cases h
  | _ => exact ⟨by simp only [PyData.eqv], by simp only [PyData.eqv]⟩
theorem eqe_O (he : EqE n e) (hn : ∀ a, isNone (e a) = false) : EqE n (encO e) := ⟨fun a b => by
  cases a with
  | none => cases b with
    | none => simp only [PyData.eqv]; rfl
    | some b => show PyData.eqv .none (e b) = _; rw [(eqv_none (hn b)).2]; simp
  | some a => cases b with
    | none => show PyData.eqv (e a) .none = _; rw [(eqv_none (hn a)).1]; simp
    | some b => show PyData.eqv (e a) (e b) = _; rw [he.ev]; simp, fun a => by
  cases a with
  | none => exact Nat.zero_le _
  | some a => exact he.dp a⟩
theorem f_eq {a b : α} (he : EqE n e) (hn : n ≤ 60 := by decide) : pEq (e a) (e b) = some (.bool (decide (a = b))) := by
  unfold pEq
  rw [if_pos (show eqOk _ _ from Or.inl (Nat.le_trans (he.dp a) (by omega))), he.ev]
theorem f_ne {a b : α} (he : EqE n e) (hn : n ≤ 60 := by decide) : pNe (e a) (e b) = some (.bool (!decide (a = b))) := by
  unfold pNe
  rw [if_pos (show eqOk _ _ from Or.inl (Nat.le_trans (he.dp a) (by omega))), he.ev]
theorem inD_map (he : EqE n e) (a : α) (xs : List α) : inD (e a) (xs.map e) = decide (a ∈ xs) := by
  unfold inD
  induction xs with
  | nil => simp
  | cons x r ih =>
    rw [List.map_cons, List.any_cons, ih, he.ev]
    by_cases h1 : x = a
    · subst h1; simp
    · have h2 : ¬ a = x := fun q => h1 q.symm
      simp [h1, h2]
theorem f_in {a : α} {xs : List α} (he : EqE n e) (hn : n ≤ 60 := by decide) : pIn (e a) (encL e xs) = some (.bool (decide (a ∈ xs))) := by
  have h : inOk (e a) (xs.map e) := Or.inl (Nat.le_trans (he.dp a) hn)
  have q : pIn (e a) (.list (xs.map e)) = if inOk (e a) (xs.map e) then some (.bool (inD (e a) (xs.map e))) else none := by
    cases e a <;> rfl
  rw [q, if_pos h, inD_map he]
theorem f_notin {a : α} {xs : List α} (he : EqE n e) (hn : n ≤ 60 := by decide) : pNotIn (e a) (encL e xs) = some (.bool (!decide (a ∈ xs))) := by
  have h : inOk (e a) (xs.map e) := Or.inl (Nat.le_trans (he.dp a) hn)
  have q : pNotIn (e a) (.list (xs.map e)) = if inOk (e a) (xs.map e) then some (.bool (!inD (e a) (xs.map e))) else none := by
    cases e a <;> rfl
  rw [q, if_pos h, inD_map he]
end

/-! ### operators and built-ins, by type -/
/-- a list's place -/
def ixOk (n : Nat) (i : Int) : Prop := 0 ≤ i ∧ i < n
instance (n : Nat) (i : Int) : Decidable (ixOk n i) := by unfold ixOk; exact inferInstance
def dvOk (j : Int) : Prop := 0 < j ∧ divOk j
instance (n : Int) : Decidable (dvOk n) := by unfold dvOk; exact inferInstance
theorem dvOk_s {j : Int} (h1 : 0 < j) (h2 : j < 2 ^ 64) : dvOk j := ⟨h1, divOk_s h1 h2⟩
section
variable {α β : Type} {e : α → PyData} {f : β → PyData} {xs ys : List α} {a b : Int}
theorem f_mul (h : mulOk a b) : pMul (.int a) (.int b) = some (.int (a * b)) := if_pos h
theorem f_div (h : dvOk b) : pDiv (.int a) (.int b) = some (.int (a / b)) := by rw [d_div, if_pos h.2, fdiv_pos h.1]
theorem f_mod (h : 0 < b) : pMod (.int a) (.int b) = some (.int (a % b)) := by rw [d_mod, if_pos (by omega), fmod_pos h]
theorem f_pow {k : Nat} (h : powOk a b) (hk : b.toNat = k) : pPow (.int a) (.int b) = some (.int (a ^ k)) := by rw [d_pow, if_pos h, hk]
theorem f_addL (h : xs.length + ys.length ≤ sizeLine) : pAdd (encL e xs) (encL e ys) = some (encL e (xs ++ ys)) := by
  rw [d_addl, List.length_map, List.length_map, if_pos h, ← List.map_append]
theorem f_idxL {i : Int} {d : α} (h : ixOk xs.length i) : pIdx (encL e xs) (.int i) = some (e (xs.getD i.toNat d)) := by
  obtain ⟨h0, h1⟩ := h
  refine atI_ok h0 ?_
  rw [List.getElem?_map, List.getElem?_eq_getElem (by omega), Option.map_some, List.getD_eq_getElem?_getD, List.getElem?_eq_getElem (by omega), Option.getD_some]
theorem f_last {d : α} (h : xs ≠ []) : pIdx (encL e xs) (.int (-1)) = some (e (xs.getLastD d)) := by
  have hl : 0 < xs.length := List.length_pos_iff.mpr h
  rw [d_idxL]
  unfold L2.atI L2.ixN
  rw [if_neg (by decide), if_pos (by rw [List.length_map]; omega), List.length_map, Option.bind_some, List.getElem?_map]
  have e1 : ((-1 : Int) + (xs.length : Int)).toNat = xs.length - 1 := by omega
  rw [e1, List.getElem?_eq_getElem (by omega), Option.map_some]
  rw [List.getLastD_eq_getLast?, List.getLast?_eq_getElem?, List.getElem?_eq_getElem (by omega), Option.getD_some]
theorem f_lenL : bLen [encL e xs] = some (.int xs.length) := by rw [d_lenL, List.length_map]
theorem f_sum {ns : List Int} : bSum [encL PyData.int ns] = some (.int ns.sum) := d_sumI ns
theorem f_any {ns : List Bool} : bAny [encL PyData.bool ns] = some (.bool (ns.any id)) := d_anyB ns
theorem f_all {ns : List Bool} : bAll [encL PyData.bool ns] = some (.bool (ns.all id)) := d_allB ns
def maxL (ns : List Int) : Int := (lmax ns).getD 0
def minL (ns : List Int) : Int := (lmin ns).getD 0
theorem f_maxL {ns : List Int} (h : ns ≠ []) : bMax [encL PyData.int ns] = some (.int (maxL ns)) := by
  rw [d_maxL]; obtain ⟨m, h1, _⟩ := lmax_some h; unfold maxL; rw [h1]; rfl
theorem f_minL {ns : List Int} (h : ns ≠ []) : bMin [encL PyData.int ns] = some (.int (minL ns)) := by
  rw [d_minL]; obtain ⟨m, h1, _⟩ := lmin_some h; unfold minL; rw [h1]; rfl
theorem maxL_ok {ns : List Int} (h : ns ≠ []) : maxL ns ∈ ns ∧ ∀ y ∈ ns, y ≤ maxL ns := by
  obtain ⟨m, h1, h2⟩ := lmax_some h; unfold maxL; rw [h1]; exact h2
theorem minL_ok {ns : List Int} (h : ns ≠ []) : minL ns ∈ ns ∧ ∀ y ∈ ns, minL ns ≤ y := by
  obtain ⟨m, h1, h2⟩ := lmin_some h; unfold minL; rw [h1]; exact h2
theorem f_max2 : bMax [.int a, .int b] = some (.int (max a b)) := by
  rw [d_max2]; congr 2; split <;> omega
theorem f_min2 : bMin [.int a, .int b] = some (.int (min a b)) := by
  rw [d_min2]; congr 2; split <;> omega
theorem f_sortI {ns : List Int} : bSorted [encL PyData.int ns] = some (encL PyData.int (ns.mergeSort leI)) := sort_li ns
theorem f_sortP {ns : List (Int × Int)} : bSorted [encL (enc2 PyData.int PyData.int) ns] = some (encL (enc2 PyData.int PyData.int) (ns.mergeSort leP)) := sort_pr ns
theorem f_abs : bAbs [.int a] = some (.int (a.natAbs : Int)) := by
  rw [d_abs]; congr 2; split <;> omega
theorem f_cut2 (h0 : 0 ≤ a) (h1 : 0 ≤ b) : pCut (encL e xs) (some a) (some b) = some (encL e ((xs.drop a.toNat).take (b.toNat - a.toNat))) := by
  rw [d_cutL, cut_nn _ h0 h1, ← List.map_drop, ← List.map_take]
theorem f_cut1 (h0 : 0 ≤ a) : pCut (encL e xs) (some a) none = some (encL e (xs.drop a.toNat)) := by
  rw [d_cutL, cut_nx _ h0, ← List.map_drop]
theorem f_cut0 (h1 : 0 ≤ b) : pCut (encL e xs) none (some b) = some (encL e (xs.take b.toNat)) := by
  rw [d_cutL, cut_xn _ h1, ← List.map_take]
theorem f_cutN : pCut (encL e xs) none none = some (encL e xs) := by
  rw [d_cutL, cut_xx]
theorem f_truL : truth (encL e xs) = some (!xs.isEmpty) := by
  cases xs <;> rfl
theorem f_isN {x : Option α} (hn : ∀ a, isNone (e a) = false) : pIsN (encO e x) .none = some (.bool x.isNone) := by
  rw [d_isN]
  cases x with
  | none => rfl
  | some a => show some (PyData.bool (isNone (e a))) = _; rw [hn a]; rfl
theorem f_isNN {x : Option α} (hn : ∀ a, isNone (e a) = false) : pIsNotN (encO e x) .none = some (.bool x.isSome) := by
  rw [d_isNN]
  cases x with
  | none => rfl
  | some a => show some (PyData.bool (!isNone (e a))) = _; rw [hn a]; rfl
theorem f_isV {x : α} (hn : ∀ a, isNone (e a) = false) : pIsN (e x) .none = some (.bool false) := by rw [d_isN, hn x]
theorem f_isNV {x : α} (hn : ∀ a, isNone (e a) = false) : pIsNotN (e x) .none = some (.bool true) := by rw [d_isNN, hn x]; rfl
def rngI (lo hi : Int) : List Int := (List.range (hi - lo).toNat).map fun (k : Nat) => lo + (k : Int)
theorem rngL_eq (lo hi : Int) : rangeL lo (hi - lo).toNat = (rngI lo hi).map PyData.int := by
  unfold rangeL rngI; rw [List.map_map]; rfl
theorem f_rng1 (h : r62 b) : rng1 [.int b] = some ((rngI 0 b).map PyData.int) := by
  rw [d_rng1, if_pos h, ← rngL_eq, Int.sub_zero]
def rngC (a b c : Int) : List Int := (List.range (Builtin.Range.rangeSize a b c).toNat).map fun (i : Nat) => a + i * c
theorem f_rng3 {a b c : Int} (h : stepOk a b c) : rng3 [.int a, .int b, .int c] = some ((rngC a b c).map PyData.int) := by
  rw [d_rng3, if_pos h]
  unfold rangeC rngC
  rw [List.map_map]; rfl
theorem f_rng2 (h : r62 a) (h' : r62 b) : rng2 [.int a, .int b] = some ((rngI a b).map PyData.int) := by
  rw [d_rng2, if_pos ⟨h, h'⟩, rngL_eq]
theorem t_lrg1I {p : Pt} {g : Evn → RE PyData} {j : Int} (h : TM p g (.int j)) (hk : lrgOk 0 j) : TM p (mLrg1 g) ((rngI 0 j).map PyData.int) := by
  rw [← rngL_eq]; exact t_lrg1 h hk
theorem t_lrg2I {p : Pt} {g g' : Evn → RE PyData} {i j : Int} (h : TM p g (.int i)) (h' : TM p g' (.int j)) (hk : lrgOk i j) : TM p (mLrg2 g g') ((rngI i j).map PyData.int) := by
  rw [← rngL_eq]; exact t_lrg2 h h' hk
theorem rngI_len (lo hi : Int) : (rngI lo hi).length = (hi - lo).toNat := by unfold rngI; rw [List.length_map, List.length_range]
theorem rngI_mem {lo hi x : Int} : x ∈ rngI lo hi ↔ lo ≤ x ∧ x < hi := by
  unfold rngI
  rw [List.mem_map]
  constructor
  · rintro ⟨k, hk, rfl⟩
    have := List.mem_range.mp hk
    omega
  · intro h
    exact ⟨(x - lo).toNat, List.mem_range.mpr (by omega), by omega⟩
theorem rngI_get {lo hi : Int} {i : Nat} (h : i < (hi - lo).toNat) : (rngI lo hi)[i]? = some (lo + i) := by
  unfold rngI
  rw [List.getElem?_map, List.getElem?_range h]; rfl
theorem rngI_nil {lo hi : Int} (h : hi ≤ lo) : rngI lo hi = [] := by
  unfold rngI
  have : (hi - lo).toNat = 0 := by omega
  rw [this]; rfl
theorem rngI_snoc {lo hi : Int} (h : lo ≤ hi) : rngI lo (hi + 1) = rngI lo hi ++ [hi] := by
  unfold rngI
  have : (hi + 1 - lo).toNat = (hi - lo).toNat + 1 := by omega
  rw [this, List.range_succ, List.map_append]
  congr 1
  show [lo + (((hi - lo).toNat : Nat) : Int)] = [hi]
  congr 1
  omega
theorem rngI_cons {lo hi : Int} (h : lo < hi) : rngI lo hi = lo :: rngI (lo + 1) hi := by
  unfold rngI
  have : (hi - lo).toNat = (hi - (lo + 1)).toNat + 1 := by omega
  rw [this, List.range_succ_eq_map, List.map_cons, List.map_map]
  congr 1
  · show lo + ((0 : Nat) : Int) = lo
    omega
  · apply List.map_congr_left
    intro k _
    show lo + ((k + 1 : Nat) : Int) = lo + 1 + k
    omega
def enumI {α : Type} : Int → List α → List (Int × α)
  | _, [] => []
  | k, x :: r => (k, x) :: enumI (k + 1) r
theorem enumL_map : ∀ (xs : List α) (k : Nat), enumL k (xs.map e) = (enumI (k : Int) xs).map (enc2 PyData.int e)
  | [], _ => rfl
  | x :: r, k => by
    rw [List.map_cons, enumL, enumL_map r (k + 1)]
    rfl
theorem f_enum : enum1 [encL e xs] = some ((enumI 0 xs).map (enc2 PyData.int e)) := by
  rw [d_enum1, enumL_map]; rfl
theorem zipL_map : ∀ (xs : List α) (ys : List β), zipL (xs.map e) (ys.map f) = (xs.zip ys).map (enc2 e f)
  | [], _ => by simp [zipL]
  | _ :: _, [] => by simp [zipL]
  | x :: r, y :: s => by
    rw [List.map_cons, List.map_cons, zipL, zipL_map r s]
    rfl
theorem f_zip {ys : List β} : zip2 [encL e xs, encL f ys] = some ((xs.zip ys).map (enc2 e f)) := by
  rw [d_zip2, zipL_map]
theorem f_revW : rev1 (encL e xs) = some (xs.reverse.map e) := by
  rw [d_rev1L, ← List.map_reverse]
theorem f_revL : pRevL (encL e xs) = .ok (xs.reverse.map e) := by
  rw [d_revL, ← List.map_reverse]
theorem f_repL {k : Int} (x : α) : (List.replicate k.toNat [e x]).flatten = (List.replicate k.toNat x).map e := by
  induction k.toNat with
  | zero => rfl
  | succ n ih => rw [List.replicate_succ, List.flatten_cons, ih, List.replicate_succ]; rfl
end
theorem ln_ok {n : Nat} (h : n ≤ 1000) : n ≤ sizeLine := by rw [line_eq]; omega

/-! ### statements -/
def TS (p : Pt) (m : Evn → RS) (Q : RS → Prop) : Prop := ∀ ρ, Sh p ρ → Q (m ρ)
/-- the outcome of a loop's body: on, out of the loop, out of the def -/
inductive Stp (σ τ : Type) where
  | nx (s : σ)
  | bk (s : σ)
  | rt (v : τ)
/-- the outcome of a loop -/
inductive Lp (σ τ : Type) where
  | nx (s : σ)
  | rt (v : τ)
def Lp.el {σ τ V : Type} (r : Lp σ τ) (f : τ → V) (g : σ → V) : V := match r with
  | .nx s => g s
  | .rt v => f v
/-- of a def's body -/
def QF {τ : Type} (e : τ → PyData) (v : τ) (o : RS) : Prop := bodyOut o = .ok (e v)
/-- of a loop's body -/
def QL {σ τ : Type} (E : σ → Pt) (e : τ → PyData) (r : Stp σ τ) (o : RS) : Prop := ∃ fl ρ', o = .ok (fl, ρ') ∧ match r with
  | .nx s => (fl = .nx ∨ fl = .ct) ∧ Sh (E s) ρ'
  | .bk s => fl = .bk ∧ Sh (E s) ρ'
  | .rt v => fl = .rt (e v)
/-- of a part that goes on -/
def QJ {σ : Type} (E : σ → Pt) (s : σ) (o : RS) : Prop := ∃ ρ', o = .ok (.nx, ρ') ∧ Sh (E s) ρ'
section
variable {p q : Pt} {σ τ α V : Type} {Q : RS → Prop} {QQ : V → RS → Prop} {m a b c : Evn → RS} {f fa fb : Evn → RE PyData} {d x y : PyData} {ds : List PyData} {E : σ → Pt} {eτ : τ → PyData} {e : α → PyData} {i : Nat} {xs : List α}
theorem then_nx (m : Evn → RS) (ρ : Evn) : sThen m sNx ρ = m ρ := by
  rw [e_sThen]
  rcases m ρ with ⟨fl, ρ'⟩ | _ | _
  · cases fl <;> rfl
  · rfl
  · rfl
theorem then_as (a b c : Evn → RS) (ρ : Evn) : sThen (sThen a b) c ρ = sThen a (sThen b c) ρ := by
  simp only [e_sThen]
  rcases a ρ with ⟨fl, ρ'⟩ | _ | _
  · cases fl <;> rfl
  · rfl
  · rfl
theorem ts_end (h : TS p (sThen m sNx) Q) : TS p m Q := fun ρ hs => by
  have := h ρ hs
  rwa [then_nx] at this
theorem ts_as (h : TS p (sThen a (sThen b c)) Q) : TS p (sThen (sThen a b) c) Q := fun ρ hs => by
  rw [then_as]; exact h ρ hs
theorem ts_fz (h : TS (fzP i p) (sThen m c) Q) : TS p (sThen (fun ρ => m (freeze i ρ)) c) Q := fun ρ hs => h _ hs.fz
theorem ts_nx (h : TS p c Q) : TS p (sThen sNx c) Q := fun ρ hs => h ρ hs
theorem ts_sub (h : Sb p q) (hm : TS q m Q) : TS p m Q := fun ρ hs => hm ρ (h.sh hs)
theorem ts_set (h : TM p f d) (hm : TS (stP p i (some (.val d))) c Q) : TS p (sThen (sSet i f) c) Q := fun ρ hs => by
  have e : sThen (sSet i f) c ρ = c (ρ.set i (some (.val d))) := by
    rw [e_sThen]; unfold sSet; rw [h ρ hs, at_ok, bind_ok, bind_ok]
  rw [e]
  exact hm _ hs.st
theorem ts_setL {g : Evn → RE (List PyData)} (h : TM p g ds) (hm : TS (stP p i (some (.val (.list ds)))) c Q) : TS p (sThen (sSetL i g) c) Q := fun ρ hs => by
  have e : sThen (sSetL i g) c ρ = c (ρ.set i (some (.val (.list ds)))) := by
    rw [e_sThen]; unfold sSetL; rw [h ρ hs, at_ok, bind_ok, bind_ok]
  rw [e]
  exact hm _ hs.st
theorem ts_setO {g : Evn → RE (List PyData)} (h : TM p g ds) (hm : TS (stP p i (some (.own ds))) c Q) : TS p (sThen (sSetO i g) c) Q := fun ρ hs => by
  have e : sThen (sSetO i g) c ρ = c (ρ.set i (some (.own ds))) := by
    rw [e_sThen]; unfold sSetO; rw [h ρ hs, at_ok, bind_ok, bind_ok]
  rw [e]
  exact hm _ hs.st
theorem ts_drop (h : TM p f d) (hm : TS p c Q) : TS p (sThen (sDrop f) c) Q := fun ρ hs => by
  have e : sThen (sDrop f) c ρ = c ρ := by
    rw [e_sThen]; unfold sDrop; rw [h ρ hs, at_ok, bind_ok, bind_ok]
  rw [e]
  exact hm _ hs
theorem own_at {ρ : Evn} (hs : Sh p ρ) (h : atP p i = some (.own ds)) : ownAt i ρ = some ds := by
  unfold ownAt; rw [hs.get h]
theorem ts_app {x : α} (h0 : atP p i = some (.own (xs.map e))) (h : TM p f (e x)) (hl : xs.length < sizeLine) (hm : TS (stP p i (some (.own ((xs ++ [x]).map e)))) c Q) : TS p (sThen (sApp i f) c) Q := fun ρ hs => by
  have e : sThen (sApp i f) c ρ = c (ρ.set i (some (.own ((xs ++ [x]).map e)))) := by
    rw [e_sThen]; unfold sApp; rw [own_at hs h0]
    show ((((f ρ).at ρ).bind fun d => if (xs.map e).length < sizeLine then (.ok (.nx, ρ.set i (some (.own (xs.map e ++ [d])))) : RS) else .bad).bind _) = _
    rw [h ρ hs, at_ok, bind_ok, if_pos (by rw [List.length_map]; exact hl), bind_ok, List.map_append]; rfl
  rw [e]
  exact hm _ hs.st
theorem ts_setIx {fk fe : Evn → RE PyData} {j : Int} {x : α} (h0 : atP p i = some (.own (xs.map e))) (hk : TM p fk (.int j)) (h : TM p fe (e x)) (hl : ixOk xs.length j) (hm : TS (stP p i (some (.own ((xs.set j.toNat x).map e)))) c Q) : TS p (sThen (sSetIx i fk fe) c) Q := fun ρ hs => by
  have q : sThen (sSetIx i fk fe) c ρ = c (ρ.set i (some (.own ((xs.set j.toNat x).map e)))) := by
    rw [e_sThen, e_sSetIx, ← ownAt_gtO, own_at hs h0, oS_some, bind_ok, h ρ hs, at_ok, bind_ok, hk ρ hs, at_ok, bind_ok, d_setD, List.length_map, ixN_ok hl.1 hl.2, Option.map_some, oS_some, bind_ok, bind_ok, ← set_stE, List.map_set]
  rw [q]
  exact hm _ hs.st
theorem ts_augIx {fk fe : Evn → RE PyData} {o : Int → Int → Int} {j y : Int} {xs : List Int} (h0 : atP p i = some (.own (xs.map PyData.int))) (hk : TM p fk (.int j)) (h : TM p fe (.int y)) (hl : ixOk xs.length j) (hm : TS (stP p i (some (.own ((xs.set j.toNat (o (xs.getD j.toNat 0) y)).map PyData.int)))) c Q) : TS p (sThen (sAugIx i fk o fe) c) Q := fun ρ hs => by
  have q : sThen (sAugIx i fk o fe) c ρ = c (ρ.set i (some (.own ((xs.set j.toNat (o (xs.getD j.toNat 0) y)).map PyData.int)))) := by
    rw [e_sThen, e_sAugIx, ← ownAt_gtO, own_at hs h0, oS_some, bind_ok, hk ρ hs, at_ok, bind_ok, f_idxL (d := 0) hl, oS_some, bind_ok, h ρ hs, at_ok, bind_ok, d_iop, Option.bind_some, d_setD, List.length_map, ixN_ok hl.1 hl.2, Option.map_some, oS_some, bind_ok, bind_ok, ← set_stE, List.map_set]
  rw [q]
  exact hm _ hs.st
theorem ts_aug {o : PyData → PyData → Option PyData} {z : PyData} (h0 : atP p i = some (.val x)) (h : TM p f y) (ho : o x y = some z) (hm : TS (stP p i (some (.val z))) c Q) : TS p (sThen (sAug i o f) c) Q := fun ρ hs => by
  have q : sThen (sAug i o f) c ρ = c (ρ.set i (some (.val z))) := by
    have g : gtE ρ i = .ok x := by rw [← e_mGet]; exact t_get h0 ρ hs
    rw [e_sThen, e_sAug, g, at_ok, bind_ok, h ρ hs, at_ok, bind_ok, ho, oS_some, bind_ok, bind_ok, ← set_stE]
  rw [q]
  exact hm _ hs.st
theorem getLast_map (e : α → PyData) (d : α) (h : xs ≠ []) : (xs.map e).getLast? = some (e (xs.getLastD d)) := by
  rw [List.getLast?_map, List.getLastD_eq_getLast?, List.getLast?_eq_some_getLast h]; rfl
theorem ts_pop (h0 : atP p i = some (.own (xs.map e))) (hl : xs ≠ []) (hm : TS (stP p i (some (.own (xs.dropLast.map e)))) c Q) : TS p (sThen (sPop i) c) Q := fun ρ hs => by
  have q : sThen (sPop i) c ρ = c (ρ.set i (some (.own (xs.dropLast.map e)))) := by
    obtain ⟨a, ha⟩ : ∃ a : α, True := by cases xs with
      | nil => exact absurd rfl hl
      | cons a _ => exact ⟨a, trivial⟩
    rw [e_sThen, e_sPop, ← ownAt_gtO, own_at hs h0, oS_some, bind_ok, getLast_map e a hl, oS_some, bind_ok, bind_ok, ← set_stE, List.map_dropLast]
  rw [q]
  exact hm _ hs.st
theorem ts_popTo {j : Nat} (d : α) (h0 : atP p i = some (.own (xs.map e))) (hl : xs ≠ []) (hm : TS (stP (stP p i (some (.own (xs.dropLast.map e)))) j (some (.val (e (xs.getLastD d))))) c Q) : TS p (sThen (sPopTo i j) c) Q := fun ρ hs => by
  have q : sThen (sPopTo i j) c ρ = c ((ρ.set i (some (.own (xs.dropLast.map e)))).set j (some (.val (e (xs.getLastD d))))) := by
    rw [e_sThen, e_sPopTo, ← ownAt_gtO, own_at hs h0, oS_some, bind_ok, getLast_map e d hl, oS_some, bind_ok, bind_ok, ← set_stE, ← set_stE, List.map_dropLast]
  rw [q]
  exact hm _ hs.st.st
theorem ts_asg {g : PyData → Evn → Option Evn} (h : TM p f d) (hg : TG p g d q) (hm : TS q c Q) : TS p (sThen (sAsg f g) c) Q := fun ρ hs => by
  obtain ⟨ρ', h1, h2⟩ := hg ρ hs
  have q : sThen (sAsg f g) c ρ = c ρ' := by
    rw [e_sThen, e_sAsg, h ρ hs, at_ok, bind_ok, h1, oS_some, bind_ok, bind_ok]
  rw [q]
  exact hm _ h2
theorem ts_par {j : Nat} {g : Evn → RE (List PyData)} (h : TM p g [x, y]) (hm : TS (stP (stP p i (some (.val x))) j (some (.val y))) c Q) : TS p (sThen (sPar i j g) c) Q := fun ρ hs => by
  have q : sThen (sPar i j g) c ρ = c ((ρ.set i (some (.val x))).set j (some (.val y))) := by
    rw [e_sThen, e_sPar, h ρ hs, at_ok, bind_ok]
    show c (stE (stE ρ i _) j _) = _
    rw [set_stE, set_stE]
  rw [q]
  exact hm _ hs.st.st
theorem then_ret (h : TM p f d) (c : Evn → RS) {ρ : Evn} (hs : Sh p ρ) : sThen (sRet f) c ρ = .ok (.rt d, ρ) := by
  rw [e_sThen, e_sRet, h ρ hs, at_ok, bind_ok, bind_ok]
theorem ts_retF {v : τ} (h : TM p f (eτ v)) : TS p (sThen (sRet f) c) (QF eτ v) := fun ρ hs => by
  rw [then_ret h c hs]; rfl
theorem ts_retL {v : τ} (h : TM p f (eτ v)) : TS p (sThen (sRet f) c) (QL E eτ (.rt v)) := fun ρ hs => by
  rw [then_ret h c hs]; exact ⟨_, _, rfl, rfl⟩
theorem ts_retNF {v : τ} (h : eτ v = .none) : TS p (sThen (fun ρ => .ok (.rt .none, ρ)) c) (QF eτ v) := fun ρ hs => by
  show bodyOut (.ok (.rt .none, ρ)) = _
  rw [h]; rfl
theorem ts_bk {s : σ} (h : Sb p (E s)) : TS p (sThen (fun ρ => .ok (.bk, ρ)) c) (QL E eτ (.bk s)) := fun ρ hs => ⟨_, _, rfl, rfl, h.sh hs⟩
theorem ts_ct {s : σ} (h : Sb p (E s)) : TS p (sThen (fun ρ => .ok (.ct, ρ)) c) (QL E eτ (.nx s)) := fun ρ hs => ⟨_, _, rfl, .inr rfl, h.sh hs⟩
theorem ts_finL {s : σ} (h : Sb p (E s)) : TS p sNx (QL E eτ (.nx s)) := fun ρ hs => ⟨_, _, rfl, .inl rfl, h.sh hs⟩
theorem ts_finJ {s : σ} (h : Sb p (E s)) : TS p sNx (QJ E s) := fun ρ hs => ⟨_, rfl, h.sh hs⟩
theorem ts_finF {v : τ} (h : eτ v = .none) : TS p sNx (QF eτ v) := fun ρ hs => by
  show bodyOut (.ok (.nx, ρ)) = _
  rw [h]; rfl
theorem then_if {t : Evn → RE Bool} {k : Bool} (hc : TM p t k) {ρ : Evn} (hs : Sh p ρ) : sThen (sIf t a b) c ρ = if k = true then sThen a c ρ else sThen b c ρ := by
  rw [e_sThen, e_sIf, hc ρ hs, at_ok, bind_ok]
  cases k <;> simp
theorem ts_if {t : Evn → RE Bool} {k : Bool} {u v : V} (hc : TM p t k) (ha : k = true → TS p (sThen a c) (QQ u)) (hb : k = false → TS p (sThen b c) (QQ v)) : TS p (sThen (sIf t a b) c) (QQ (if k = true then u else v)) := fun ρ hs => by
  rw [then_if hc hs]
  cases k with
  | true => rw [if_pos rfl, if_pos rfl]; exact ha rfl ρ hs
  | false => rw [if_neg (by decide), if_neg (by decide)]; exact hb rfl ρ hs
theorem ts_join {t : Evn → RE Bool} {k : Bool} {u v : σ} (hc : TM p t k) (ha : k = true → TS p a (QJ E u)) (hb : k = false → TS p b (QJ E v)) (hr : TS (E (if k = true then u else v)) c Q) : TS p (sThen (sIf t a b) c) Q := fun ρ hs => by
  rw [then_if hc hs]
  cases k with
  | true =>
    rw [if_pos rfl] at hr ⊢
    obtain ⟨ρ', h1, h2⟩ := ha rfl ρ hs
    rw [e_sThen, h1, bind_ok]
    exact hr ρ' h2
  | false =>
    rw [if_neg (by decide)] at hr ⊢
    obtain ⟨ρ', h1, h2⟩ := hb rfl ρ hs
    rw [e_sThen, h1, bind_ok]
    exact hr ρ' h2
end
/-! loops -/
/-- what a loop needs at each turn -/
inductive LpS {σ α : Type} (S : σ → α → Prop) (F : σ → α → σ) : List α → σ → Prop
  | nil {s : σ} : LpS S F [] s
  | cons {x : α} {r : List α} {s : σ} : S s x → LpS S F r (F s x) → LpS S F (x :: r) s
theorem LpS.hd {σ α : Type} {S : σ → α → Prop} {F : σ → α → σ} {x : α} {r : List α} {s : σ} (h : LpS S F (x :: r) s) : S s x := by cases h with | cons a b => exact a
theorem LpS.tl {σ α : Type} {S : σ → α → Prop} {F : σ → α → σ} {x : α} {r : List α} {s : σ} (h : LpS S F (x :: r) s) : LpS S F r (F s x) := by cases h with | cons a b => exact b
theorem LpS.inv {σ α : Type} {S : σ → α → Prop} {F : σ → α → σ} (I : σ → Prop) : ∀ {xs : List α} {s : σ}, I s → (∀ s x, x ∈ xs → I s → S s x ∧ I (F s x)) → LpS S F xs s
  | [], _, _, _ => .nil
  | x :: r, s, h0, h => .cons (h s x (List.mem_cons_self ..) h0).1 (LpS.inv I (h s x (List.mem_cons_self ..) h0).2 fun s y hy => h s y (List.mem_cons_of_mem _ hy))
/-- .. by the part that is behind -/
theorem LpS.pre {σ α : Type} {S : σ → α → Prop} {F : σ → α → σ} {xs : List α} {s : σ} (h : ∀ pre x post, xs = pre ++ x :: post → S (pre.foldl F s) x) : LpS S F xs s := by
  have key : ∀ (es pre : List α), xs = pre ++ es → LpS S F es (pre.foldl F s) := by
    intro es
    induction es with
    | nil => intro _ _; exact .nil
    | cons x r ih =>
      intro pre e
      refine .cons (h pre x r e) ?_
      have := ih (pre ++ [x]) (by rw [e, List.append_assoc]; rfl)
      rwa [List.foldl_append] at this
  exact key xs [] rfl
theorem fold_inv {σ α : Type} {F : σ → α → σ} (I : σ → Prop) : ∀ {xs : List α} {s : σ}, I s → (∀ s x, x ∈ xs → I s → I (F s x)) → I (xs.foldl F s)
  | [], _, h, _ => h
  | x :: r, s, h0, h => fold_inv (F := F) I (xs := r) (s := F s x) (h s x (List.mem_cons_self ..) h0) fun s y hy => h s y (List.mem_cons_of_mem _ hy)
theorem fold_pre {σ α : Type} {F : σ → α → σ} {xs : List α} {s : σ} (I : List α → σ → Prop) (h0 : I [] s) (h : ∀ pre x post s, xs = pre ++ x :: post → I pre s → I (pre ++ [x]) (F s x)) : I xs (xs.foldl F s) := by
  have key : ∀ (es pre : List α) (s : σ), xs = pre ++ es → I pre s → I xs (es.foldl F s) := by
    intro es
    induction es with
    | nil => intro pre s e hi; rw [List.append_nil] at e; subst e; exact hi
    | cons x r ih => intro pre s e hi; exact ih (pre ++ [x]) (F s x) (by rw [e, List.append_assoc]; rfl) (h pre x r s e hi)
  exact key xs [] s rfl h0
def loopR {σ τ α : Type} (F : σ → α → Stp σ τ) : List α → σ → Lp σ τ
  | [], s => .nx s
  | x :: r, s => match F s x with
    | .nx s' => loopR F r s'
    | .bk s' => .nx s'
    | .rt v => .rt v
inductive LpR {σ τ α : Type} (S : σ → α → Prop) (F : σ → α → Stp σ τ) : List α → σ → Prop
  | nil {s : σ} : LpR S F [] s
  | cons {x : α} {r : List α} {s : σ} : S s x → (∀ s', F s x = .nx s' → LpR S F r s') → LpR S F (x :: r) s
theorem LpR.hd {σ τ α : Type} {S : σ → α → Prop} {F : σ → α → Stp σ τ} {x : α} {r : List α} {s : σ} (h : LpR S F (x :: r) s) : S s x := by cases h with | cons a b => exact a
theorem LpR.tl {σ τ α : Type} {S : σ → α → Prop} {F : σ → α → Stp σ τ} {x : α} {r : List α} {s s' : σ} (h : LpR S F (x :: r) s) (e : F s x = .nx s') : LpR S F r s' := by cases h with | cons a b => exact b s' e
theorem LpR.inv {σ τ α : Type} {S : σ → α → Prop} {F : σ → α → Stp σ τ} (I : σ → Prop) : ∀ {xs : List α} {s : σ}, I s → (∀ s x, x ∈ xs → I s → S s x ∧ ∀ s', F s x = .nx s' → I s') → LpR S F xs s
  | [], _, _, _ => .nil
  | x :: r, s, h0, h => by
    have h1 := h s x (List.mem_cons_self ..) h0
    exact .cons h1.1 fun s' e => LpR.inv I (h1.2 s' e) fun s y hy => h s y (List.mem_cons_of_mem _ hy)
theorem loopR_cons {σ τ α : Type} (F : σ → α → Stp σ τ) (x : α) (r : List α) (s : σ) : loopR F (x :: r) s = match F s x with
    | .nx s' => loopR F r s'
    | .bk s' => .nx s'
    | .rt v => .rt v := rfl
/-- a loop that only ever goes on -/
theorem loopR_fold {σ τ α : Type} {F : σ → α → Stp σ τ} {G : σ → α → σ} (I : σ → Prop) : ∀ {xs : List α} {s : σ}, I s → (∀ s x, x ∈ xs → I s → F s x = .nx (G s x) ∧ I (G s x)) → loopR F xs s = .nx (xs.foldl G s)
  | [], _, _, _ => rfl
  | x :: r, s, h0, h => by
    have h1 := h s x (List.mem_cons_self ..) h0
    rw [loopR_cons, h1.1]
    exact loopR_fold I h1.2 fun s y hy => h s y (List.mem_cons_of_mem _ hy)
section
variable {p : Pt} {σ τ α V : Type} {Q : RS → Prop} {QQ : V → RS → Prop} {body c : Evn → RS} {w : Evn → RE (List PyData)} {g : PyData → Evn → Option Evn} {E : σ → Pt} {eτ : τ → PyData} {e : α → PyData} {xs : List α} {s0 : σ} {q : σ → α → Pt}
theorem for_fold {S : σ → α → Prop} {F : σ → α → σ} (hg : ∀ s x, TG (E s) g (e x) (q s x)) (hb : ∀ s x, x ∈ xs → S s x → TS (q s x) body (QL E eτ (.nx (F s x)))) : ∀ (ys : List α) (s : σ) (ρ : Evn), (∀ y ∈ ys, y ∈ xs) → LpS S F ys s → Sh (E s) ρ → ∃ ρ', forM g body (ys.map e) ρ = .ok (.nx, ρ') ∧ Sh (E (ys.foldl F s)) ρ'
  | [], s, ρ, _, _, h => ⟨ρ, rfl, h⟩
  | y :: r, s, ρ, hm, hl, h => by
    obtain ⟨ρ1, h1, h2⟩ := hg s y ρ h
    obtain ⟨fl, ρ2, h3, h4, h5⟩ := hb s y (hm y (List.mem_cons_self ..)) hl.hd ρ1 h2
    obtain ⟨ρ3, h6, h7⟩ := for_fold hg hb r (F s y) ρ2 (fun z hz => hm z (List.mem_cons_of_mem _ hz)) hl.tl h5
    refine ⟨ρ3, ?_, h7⟩
    rw [List.map_cons, forM_cons, h1, oS_some, bind_ok, h3, bind_ok]
    rcases h4 with rfl | rfl <;> exact h6
theorem ts_for {S : σ → α → Prop} {F : σ → α → σ} (h0 : Sb p (E s0)) (hw : TM p w (xs.map e)) (hl : LpS S F xs s0) (hg : ∀ s x, TG (E s) g (e x) (q s x)) (hb : ∀ s x, x ∈ xs → S s x → TS (q s x) body (QL E eτ (.nx (F s x)))) (hr : TS (E (xs.foldl F s0)) c Q) : TS p (sThen (sFor w g body) c) Q := fun ρ hs => by
  obtain ⟨ρ', h1, h2⟩ := for_fold hg hb xs s0 ρ (fun _ h => h) hl (h0.sh hs)
  have q : sThen (sFor w g body) c ρ = c ρ' := by
    rw [e_sThen, e_sFor, hw ρ hs, at_ok, bind_ok, h1, bind_ok]
  rw [q]
  exact hr ρ' h2
theorem for_R {S : σ → α → Prop} {F : σ → α → Stp σ τ} (hg : ∀ s x, TG (E s) g (e x) (q s x)) (hb : ∀ s x, x ∈ xs → S s x → TS (q s x) body (QL E eτ (F s x))) : ∀ (ys : List α) (s : σ) (ρ : Evn), (∀ y ∈ ys, y ∈ xs) → LpR S F ys s → Sh (E s) ρ → ∃ fl ρ', forM g body (ys.map e) ρ = .ok (fl, ρ') ∧ match loopR F ys s with
      | .nx s' => fl = .nx ∧ Sh (E s') ρ'
      | .rt v => fl = .rt (eτ v)
  | [], s, ρ, _, _, h => ⟨_, ρ, rfl, rfl, h⟩
  | y :: r, s, ρ, hm, hl, h => by
    obtain ⟨ρ1, h1, h2⟩ := hg s y ρ h
    obtain ⟨fl, ρ2, h3, h4⟩ := hb s y (hm y (List.mem_cons_self ..)) hl.hd ρ1 h2
    rw [loopR_cons]
    cases k : F s y with
    | nx s' =>
      rw [k] at h4
      obtain ⟨fl', ρ3, h6, h7⟩ := for_R hg hb r s' ρ2 (fun z hz => hm z (List.mem_cons_of_mem _ hz)) (hl.tl k) h4.2
      refine ⟨fl', ρ3, ?_, h7⟩
      rw [List.map_cons, forM_cons, h1, oS_some, bind_ok, h3, bind_ok]
      rcases h4.1 with rfl | rfl <;> exact h6
    | bk s' =>
      rw [k] at h4
      refine ⟨_, ρ2, ?_, rfl, h4.2⟩
      rw [List.map_cons, forM_cons, h1, oS_some, bind_ok, h3, bind_ok, h4.1]
    | rt v =>
      rw [k] at h4
      refine ⟨.rt (eτ v), ρ2, ?_, rfl⟩
      have h4' : fl = .rt (eτ v) := h4
      rw [List.map_cons, forM_cons, h1, oS_some, bind_ok, h3, bind_ok, h4']
/-- how a return out of a loop ends the part that it stands in -/
theorem ts_forR {S : σ → α → Prop} {F : σ → α → Stp σ τ} {K : τ → V} {G : σ → V} (hK : ∀ v ρ, QQ (K v) (.ok (.rt (eτ v), ρ))) (h0 : Sb p (E s0)) (hw : TM p w (xs.map e)) (hl : LpR S F xs s0) (hg : ∀ s x, TG (E s) g (e x) (q s x)) (hb : ∀ s x, x ∈ xs → S s x → TS (q s x) body (QL E eτ (F s x))) (hr : ∀ s, loopR F xs s0 = .nx s → TS (E s) c (QQ (G s))) : TS p (sThen (sFor w g body) c) (QQ ((loopR F xs s0).el K G)) := fun ρ hs => by
  obtain ⟨fl, ρ', h1, h2⟩ := for_R hg hb xs s0 ρ (fun _ h => h) hl (h0.sh hs)
  have q : sThen (sFor w g body) c ρ = (R.ok (fl, ρ') : RS).bind fun p => match p.1 with | .nx => c p.2 | _ => .ok p := by
    (rw [e_sThen, e_sFor, hw ρ hs, at_ok, bind_ok, h1]) <;> rfl
  rw [q, bind_ok]
  cases k : loopR F xs s0 with
  | nx s =>
    rw [k] at h2
    obtain ⟨rfl, h3⟩ := h2
    exact hr s k ρ' h3
  | rt v =>
    rw [k] at h2
    have h2' : fl = .rt (eτ v) := h2
    subst h2'
    exact hK v ρ'
theorem kF {v : τ} {ρ : Evn} : QF eτ v (.ok (.rt (eτ v), ρ)) := rfl
theorem kL {σ' : Type} {E' : σ' → Pt} {v : τ} {ρ : Evn} : QL E' eτ (.rt v) (.ok (.rt (eτ v), ρ)) := ⟨_, _, rfl, rfl⟩
end
/-! while -/
def whR {σ τ : Type} (t : σ → Bool) (F : σ → Stp σ τ) : Nat → σ → Lp σ τ
  | 0, s => .nx s
  | n + 1, s => if t s = true then (match F s with
    | .nx s' => whR t F n s'
    | .bk s' => .nx s'
    | .rt v => .rt v) else .nx s
inductive whS {σ τ : Type} (St Sb : σ → Prop) (t : σ → Bool) (F : σ → Stp σ τ) : Nat → σ → Prop
  | step {n : Nat} {s : σ} : St s → (t s = true → Sb s) → (t s = true → ∀ s', F s = .nx s' → whS St Sb t F n s') → whS St Sb t F (n + 1) s
theorem whR_succ {σ τ : Type} (t : σ → Bool) (F : σ → Stp σ τ) (n : Nat) (s : σ) : whR t F (n + 1) s = if t s = true then (match F s with
    | .nx s' => whR t F n s'
    | .bk s' => .nx s'
    | .rt v => .rt v) else .nx s := rfl
section
variable {p : Pt} {σ τ V : Type} {Q : RS → Prop} {QQ : V → RS → Prop} {body c : Evn → RS} {tt : Evn → RE Bool} {E : σ → Pt} {eτ : τ → PyData} {s0 : σ}
theorem wh_R {St Sb : σ → Prop} {t : σ → Bool} {F : σ → Stp σ τ} (ht : ∀ s, St s → TM (E s) tt (t s)) (hb : ∀ s, t s = true → Sb s → TS (E s) body (QL E eτ (F s))) : ∀ (n : Nat) (s : σ) (ρ : Evn), whS St Sb t F n s → Sh (E s) ρ → ∃ fl ρ', whileM tt body n ρ = .ok (fl, ρ') ∧ match whR t F n s with
      | .nx s' => fl = .nx ∧ Sh (E s') ρ'
      | .rt v => fl = .rt (eτ v)
  | 0, s, ρ, hl, _ => by cases hl
  | n + 1, s, ρ, hl, h => by
    cases hl with
    | step hl1 hl2 hl5 =>
    have e0 := ht s hl1 ρ h
    unfold whileM
    rw [whR_succ, e0, at_ok, bind_ok]
    by_cases k : t s = true
    · rw [if_pos k, if_pos k]
      have hl3 := hl2 k
      have hl4 := hl5 k
      obtain ⟨fl, ρ2, h3, h4⟩ := hb s k hl3 ρ h
      rw [h3, bind_ok]
      cases k2 : F s with
      | nx s' =>
        rw [k2] at h4
        obtain ⟨fl', ρ3, h6, h7⟩ := wh_R ht hb n s' ρ2 (hl4 s' k2) h4.2
        refine ⟨fl', ρ3, ?_, h7⟩
        rcases h4.1 with rfl | rfl <;> exact h6
      | bk s' =>
        rw [k2] at h4
        refine ⟨_, ρ2, ?_, rfl, h4.2⟩
        rw [h4.1]
      | rt v =>
        rw [k2] at h4
        refine ⟨.rt (eτ v), ρ2, ?_, rfl⟩
        have h4' : fl = .rt (eτ v) := h4
        rw [h4']
    · rw [if_neg k, if_neg k]
      exact ⟨_, ρ, rfl, rfl, h⟩
theorem ts_while {n : Nat} {St Sbo : σ → Prop} {t : σ → Bool} {F : σ → Stp σ τ} {K : τ → V} {G : σ → V} (hK : ∀ v ρ, QQ (K v) (.ok (.rt (eτ v), ρ))) (h0 : Sb p (E s0)) (hl : whS St Sbo t F n s0) (ht : ∀ s, St s → TM (E s) tt (t s)) (hb : ∀ s, t s = true → Sbo s → TS (E s) body (QL E eτ (F s))) (hr : ∀ s, whR t F n s0 = .nx s → TS (E s) c (QQ (G s))) : TS p (sThen (whileM tt body n) c) (QQ ((whR t F n s0).el K G)) := fun ρ hs => by
  obtain ⟨fl, ρ', h1, h2⟩ := wh_R ht hb n s0 ρ hl (h0.sh hs)
  rw [e_sThen, h1, bind_ok]
  cases k : whR t F n s0 with
  | nx s =>
    rw [k] at h2
    obtain ⟨rfl, h3⟩ := h2
    exact hr s k ρ' h3
  | rt v =>
    rw [k] at h2
    have h2' : fl = .rt (eτ v) := h2
    subst h2'
    exact hK v ρ'
end
/-! a def -/
theorem t_fn {τ : Type} {eτ : τ → PyData} {n N : Nat} {b : Evn → RS} {ds : List PyData} {v : τ} (h : ds.length = n) (hb : TS (ptE N ds) b (QF eτ v)) : fnM n N b ds = .ok (eτ v) := by
  rw [fn_go h]
  exact hb _ (sh_start N ds)
end PV
namespace PV
open PySem
/-- let, by a name -/
def bnd {α : Type} {β : Sort _} (a : α) (f : α → β) : β := f a
theorem ln_r {n : Nat} (h : Nat.ble n 1000 = true) : n ≤ sizeLine := ln_ok (Nat.le_of_ble_eq_true h)
theorem ix_mod {n : Nat} {x k : Int} (h0 : 0 < k) (h : k ≤ n) : ixOk n (x % k) := ⟨Int.emod_nonneg _ (by omega), by have := Int.emod_lt_of_pos x h0; omega⟩
theorem LpS.tt {σ α : Type} {F : σ → α → σ} : ∀ {xs : List α} {s : σ}, LpS (fun _ _ => True) F xs s
  | [], _ => .nil
  | _ :: _, _ => .cons trivial LpS.tt
theorem LpR.tt {σ τ α : Type} {F : σ → α → Stp σ τ} {xs : List α} {s : σ} : LpR (fun _ _ => True) F xs s := LpR.inv (fun _ => True) trivial fun _ _ _ _ => ⟨trivial, fun _ _ => trivial⟩
section
variable {p : Pt} {σ τ α γ V : Type} {QQ : V → RS → Prop} {body c : Evn → RS} {f : Evn → RE PyData} {i : Nat} {eγ : γ → PyData} {a : γ} {B : γ → V} {S' : γ → Prop}
theorem ts_setG (h : TM p f (eγ a)) (hS : bnd a S') (hm : ∀ v, S' v → TS (stP p i (some (.val (eγ v)))) c (QQ (B v))) : TS p (sThen (sSet i f) c) (QQ (bnd a B)) := ts_set h (hm a hS)
theorem ts_setLG {g : Evn → RE (List PyData)} {a : List γ} {B : List γ → V} {S' : List γ → Prop} (h : TM p g (a.map eγ)) (hS : bnd a S') (hm : ∀ v, S' v → TS (stP p i (some (.val (encL eγ v)))) c (QQ (B v))) : TS p (sThen (sSetL i g) c) (QQ (bnd a B)) := ts_setL h (hm a hS)
theorem ts_setOG {g : Evn → RE (List PyData)} {a : List γ} {B : List γ → V} {S' : List γ → Prop} (h : TM p g (a.map eγ)) (hS : bnd a S') (hm : ∀ v, S' v → TS (stP p i (some (.own (v.map eγ)))) c (QQ (B v))) : TS p (sThen (sSetO i g) c) (QQ (bnd a B)) := ts_setO h (hm a hS)
theorem ts_augG {o : PyData → PyData → Option PyData} {x y : PyData} (h0 : atP p i = some (.val x)) (h : TM p f y) (ho : o x y = some (eγ a)) (hS : bnd a S') (hm : ∀ v, S' v → TS (stP p i (some (.val (eγ v)))) c (QQ (B v))) : TS p (sThen (sAug i o f) c) (QQ (bnd a B)) := ts_aug h0 h ho (hm a hS)
theorem ts_asgG {g : PyData → Evn → Option Evn} {q : γ → Pt} (h : TM p f (eγ a)) (hS : bnd a S') (hg : ∀ v, TG p g (eγ v) (q v)) (hm : ∀ v, S' v → TS (q v) c (QQ (B v))) : TS p (sThen (sAsg f g) c) (QQ (bnd a B)) := ts_asg h (hg a) (hm a hS)
theorem ts_forG {w : Evn → RE (List PyData)} {g : PyData → Evn → Option Evn} {E : σ → Pt} {eτ : τ → PyData} {e : α → PyData} {xs : List α} {s0 : σ} {q : σ → α → Pt} {B : σ → V} {S' : σ → Prop} {S : σ → α → Prop} {F : σ → α → σ}
    (h0 : Sb p (E s0)) (hw : TM p w (xs.map e)) (hl : LpS S F xs s0) (hg : ∀ s x, TG (E s) g (e x) (q s x)) (hb : ∀ s x, x ∈ xs → S s x → TS (q s x) body (QL E eτ (.nx (F s x)))) (hS : bnd (xs.foldl F s0) S') (hr : ∀ s, S' s → TS (E s) c (QQ (B s))) : TS p (sThen (sFor w g body) c) (QQ (bnd (xs.foldl F s0) B)) :=
  ts_for h0 hw hl hg hb (hr _ hS)
theorem ts_joinG {A C : Evn → RS} {t : Evn → RE Bool} {k : Bool} {u v : σ} {E : σ → Pt} {B : σ → V} {S' : σ → Prop} (hc : TM p t k) (ha : k = true → TS p A (QJ E u)) (hb : k = false → TS p C (QJ E v)) (hS : bnd (if k = true then u else v) S') (hr : ∀ s, S' s → TS (E s) c (QQ (B s))) : TS p (sThen (sIf t A C) c) (QQ (bnd (if k = true then u else v) B)) :=
  ts_join hc ha hb (hr _ hS)
theorem ts_forRU {w : Evn → RE (List PyData)} {g : PyData → Evn → Option Evn} {E : σ → Pt} {eτ : τ → PyData} {e : α → PyData} {xs : List α} {s0 : σ} {q : σ → α → Pt} {S : σ → α → Prop} {F : σ → α → Stp σ τ} {K : τ → V} {G : σ → V}
    (hK : ∀ v ρ, QQ (K v) (.ok (.rt (eτ v), ρ))) (h0 : Sb p (E s0)) (hw : TM p w (xs.map e)) (hl : LpR S F xs s0) (hg : ∀ s x, TG (E s) g (e x) (q s x)) (hb : ∀ s x, x ∈ xs → S s x → TS (q s x) body (QL E eτ (F s x))) (hr : ∀ s, loopR F xs s0 = .nx s → TS (E s) c (QQ (G s))) : TS p (sThen (sFor w g body) c) (QQ ((loopR F xs s0).el K G)) :=
  ts_forR hK h0 hw hl hg hb hr
theorem ts_whileU {tt : Evn → RE Bool} {E : σ → Pt} {eτ : τ → PyData} {s0 : σ} {n : Nat} {St Sbo : σ → Prop} {t : σ → Bool} {F : σ → Stp σ τ} {K : τ → V} {G : σ → V} (hK : ∀ v ρ, QQ (K v) (.ok (.rt (eτ v), ρ))) (h0 : Sb p (E s0)) (hl : whS St Sbo t F n s0) (ht : ∀ s, St s → TM (E s) tt (t s)) (hb : ∀ s, t s = true → Sbo s → TS (E s) body (QL E eτ (F s))) (hr : ∀ s, whR t F n s0 = .nx s → TS (E s) c (QQ (G s))) : TS p (sThen (whileM tt body n) c) (QQ ((whR t F n s0).el K G)) :=
  ts_while hK h0 hl ht hb hr
end
section
variable {α : Type} {e : α → PyData} {xs ys : List α}
theorem f_i0 (x : PyData) (r : List PyData) : pIdx (.tuple (x :: r)) (.int 0) = some x := at_0 x r
theorem f_i1 (x y : PyData) (r : List PyData) : pIdx (.tuple (x :: y :: r)) (.int 1) = some y := at_1 x y r
theorem f_i2 (x y z : PyData) (r : List PyData) : pIdx (.tuple (x :: y :: z :: r)) (.int 2) = some z := at_2 x y z r
theorem f_i3 (x y z u : PyData) (r : List PyData) : pIdx (.tuple (x :: y :: z :: u :: r)) (.int 3) = some u := at_3 x y z u r
theorem f_i4 (x y z u v : PyData) (r : List PyData) : pIdx (.tuple (x :: y :: z :: u :: v :: r)) (.int 4) = some v := at_4 x y z u v r
theorem f_i5 (x y z u v w : PyData) (r : List PyData) : pIdx (.tuple (x :: y :: z :: u :: v :: w :: r)) (.int 5) = some w := at_5 x y z u v w r
theorem f_idxU {i : Int} {d : α} (h : ixOk xs.length i) : pIdx (encU e xs) (.int i) = some (e (xs.getD i.toNat d)) := f_idxL h
theorem f_lenU : bLen [encU e xs] = some (.int xs.length) := by rw [d_lenT, List.length_map]
theorem f_eqA {d d' : PyData} (h : eqOk d d') : pEq d d' = some (.bool (PyData.eqv d d')) := if_pos h
theorem f_neA {d d' : PyData} (h : eqOk d d') : pNe d d' = some (.bool (!PyData.eqv d d')) := if_pos h
theorem f_addS {x y : Str} (h : x.length + y.length ≤ sizeLine) : pAdd (.str x) (.str y) = some (.str (x ++ y)) := if_pos h
end
end PV
namespace PV
open PySem
theorem unLO {α : Type} {e : α → PyData} {xs : List (Option α)} {d : α} (h : ∀ x ∈ xs, x.isSome = true) : xs.map (encO e) = (xs.map fun x => x.getD d).map e := by
  rw [List.map_map]
  apply List.map_congr_left
  intro x hx
  cases x with
  | none => have := h _ hx; cases this
  | some a => rfl
end PV
namespace PV
open PySem
/-- what a meaning gives, without a look at it -/
noncomputable def opq {α : Type} [Inhabited α] (e : α → PyData) (r : RE PyData) : α := open Classical in if h : ∃ v, r = .ok (e v) then h.choose else default
theorem opq_T {α : Type} [Inhabited α] {e : α → PyData} {r : RE PyData} (h : ∃ v, r = .ok (e v)) : r = .ok (e (opq e r)) := by
  unfold opq
  rw [dif_pos h]
  exact h.choose_spec
theorem ok_inj {ε α : Type} {a b : α} (h : (R.ok a : R ε α) = R.ok b) : a = b := by injection h
theorem opq_B {r : RE PyData} {b : Bool} (h : r = .ok (.bool b)) : opq PyData.bool r = b := by
  have := ok_inj (h.symm.trans (opq_T (e := PyData.bool) ⟨b, h⟩))
  injection this with this
  exact this.symm
theorem opq_I {r : RE PyData} {b : Int} (h : r = .ok (.int b)) : opq PyData.int r = b := by
  have := ok_inj (h.symm.trans (opq_T (e := PyData.int) ⟨b, h⟩))
  injection this with this
  exact this.symm
theorem map_idD (ds : List PyData) : ds.map idD = ds := List.map_id' ds
theorem opq_LA {r : RE PyData} {ds : List PyData} (h : r = .ok (.list ds)) : opq (encL idD) r = ds := by
  have h' : r = .ok (encL idD ds) := by rw [h]; show _ = R.ok (PyData.list (ds.map idD)); rw [map_idD]
  have := ok_inj (h'.symm.trans (opq_T (e := encL idD) ⟨ds, h'⟩))
  injection this with this
  rw [map_idD, map_idD] at this
  exact this.symm
instance : Inhabited PyData := ⟨.none⟩
theorem opq_A {r : RE PyData} {d : PyData} (h : r = .ok d) : opq idD r = d := (ok_inj (h.symm.trans (opq_T (e := idD) ⟨d, h⟩))).symm
end PV
namespace PV
open PySem
section
variable {a b : Int} {p q : Bool}
theorem f_add : pAdd (.int a) (.int b) = some (.int (a + b)) := rfl
theorem f_iadd : pIAdd (.int a) (.int b) = some (.int (a + b)) := rfl
theorem f_sub : pSub (.int a) (.int b) = some (.int (a - b)) := rfl
theorem f_lt : pLt (.int a) (.int b) = some (.bool (decide (a < b))) := rfl
theorem f_le : pLe (.int a) (.int b) = some (.bool (decide (a ≤ b))) := rfl
theorem f_gt : pGt (.int a) (.int b) = some (.bool (decide (b < a))) := rfl
theorem f_ge : pGe (.int a) (.int b) = some (.bool (decide (b ≤ a))) := rfl
theorem f_neg : pNeg (.int a) = some (.int (-a)) := rfl
theorem f_not : pNot (.bool p) = some (.bool (!p)) := rfl
theorem f_intI : bInt [.int a] = some (.int a) := rfl
theorem f_intB : bInt [.bool p] = some (.int (if p = true then 1 else 0)) := rfl
theorem f_gcd : bGcd [.int a, .int b] = some (.int ((Nat.gcd a.natAbs b.natAbs : Nat) : Int)) := rfl
theorem f_truB : truth (.bool p) = some p := rfl
theorem f_truI : truth (.int a) = some (a != 0) := rfl
theorem f_isNN0 : pIsN .none .none = some (.bool true) := rfl
theorem f_isNNN0 : pIsNotN .none .none = some (.bool false) := rfl
end
end PV

namespace PV
open PySem
abbrev vv {α : Type} (e : α → PyData) (x : α) : Option Cel := some (.val (e x))
abbrev vo {α : Type} (e : α → PyData) (xs : List α) : Option Cel := some (.own (xs.map e))
theorem ts_p {p : Pt} (q : Pt) {m : Evn → RS} {Q : RS → Prop} (e : p = q) (h : TS q m Q) : TS p m Q := e ▸ h
theorem tm_p {α : Type} {p : Pt} (q : Pt) {m : Evn → RE α} {a : α} (e : p = q) (h : TM q m a) : TM p m a := e ▸ h
end PV
namespace PV
open PySem
theorem mTup_ok {ds : List PyData} (h : Nat.ble ds.length 1000 = true) : mTup ds = .ok (.tuple ds) := if_pos (ln_r h)
theorem mLst_ok {ds : List PyData} (h : Nat.ble ds.length 1000 = true) : mLst ds = .ok (.list ds) := if_pos (ln_r h)
section
variable {α : Type} {e : α → PyData} {xs : List α}
theorem f_idxK {j : Int} {d : α} (n : Nat) (hj : j = (n : Int)) (h : n < xs.length) : pIdx (encL e xs) (.int j) = some (e (xs.getD n d)) := by
  subst hj
  exact f_idxL (i := (n : Int)) ⟨by omega, by omega⟩
theorem f_idxKU {j : Int} {d : α} (n : Nat) (hj : j = (n : Int)) (h : n < xs.length) : pIdx (encU e xs) (.int j) = some (e (xs.getD n d)) := f_idxK n hj h
end
end PV
namespace PV
open PySem
theorem t_as {p : Pt} {α : Type} {f : Evn → RE PyData} (e : α → PyData) (x : α) (h : TM p f (e x)) : TM p f (e x) := h
end PV
namespace PV
open PySem
/-! data without dicts, by type -/
def PlE {α : Type} (d : Nat) (e : α → PyData) : Prop := ∀ k a, d ≤ k → plainD k (e a)
theorem PlE.ok {α : Type} {d k : Nat} {e : α → PyData} (h : PlE d e) (a : α) (hk : d ≤ k := by decide) : plainD k (e a) := h k a hk
theorem pl_succ {d k : Nat} (h : d + 1 ≤ k) : ∃ j, k = j + 1 ∧ d ≤ j := ⟨k - 1, by omega, by omega⟩
theorem ple_I : PlE 1 PyData.int := fun k a h => by obtain ⟨j, rfl, _⟩ := pl_succ h; trivial
theorem ple_B : PlE 1 PyData.bool := fun k a h => by obtain ⟨j, rfl, _⟩ := pl_succ h; trivial
theorem ple_S : PlE 1 PyData.str := fun k a h => by obtain ⟨j, rfl, _⟩ := pl_succ h; trivial
theorem ple_N : PlE 1 eN := fun k a h => by obtain ⟨j, rfl, _⟩ := pl_succ h; trivial
section
variable {α β γ δ : Type} {n m k l : Nat} {e : α → PyData} {f : β → PyData} {g : γ → PyData} {h : δ → PyData}
theorem ple_O (he : PlE n e) (hn : 1 ≤ n := by decide) : PlE n (encO e) := fun k a hk => by
  cases a with
  | none => obtain ⟨j, rfl, _⟩ := pl_succ (Nat.le_trans hn hk); trivial
  | some a => exact he k a hk
theorem ple_2 (he : PlE n e) (hf : PlE m f) : PlE (max n m + 1) (enc2 e f) := fun k a hk => by
  obtain ⟨j, rfl, hj⟩ := pl_succ hk
  refine ⟨by simp, fun x hx => ?_⟩
  simp only [List.mem_cons, List.not_mem_nil, or_false] at hx
  rcases hx with rfl | rfl
  · exact he j _ (by omega)
  · exact hf j _ (by omega)
theorem ple_3 (he : PlE n e) (hf : PlE m f) (hg : PlE k g) : PlE (max n (max m k) + 1) (enc3 e f g) := fun k a hk => by
  obtain ⟨j, rfl, hj⟩ := pl_succ hk
  refine ⟨by simp, fun x hx => ?_⟩
  simp only [List.mem_cons, List.not_mem_nil, or_false] at hx
  rcases hx with rfl | rfl | rfl
  · exact he j _ (by omega)
  · exact hf j _ (by omega)
  · exact hg j _ (by omega)
theorem ple_4 (he : PlE n e) (hf : PlE m f) (hg : PlE k g) (hh : PlE l h) : PlE (max n (max m (max k l)) + 1) (enc4 e f g h) := fun k a hk => by
  obtain ⟨j, rfl, hj⟩ := pl_succ hk
  refine ⟨by simp, fun x hx => ?_⟩
  simp only [List.mem_cons, List.not_mem_nil, or_false] at hx
  rcases hx with rfl | rfl | rfl | rfl
  · exact he j _ (by omega)
  · exact hf j _ (by omega)
  · exact hg j _ (by omega)
  · exact hh j _ (by omega)
theorem plain_L {xs : List α} (he : ∀ x ∈ xs, plainD n (e x)) (hl : xs.length ≤ sizeLine) : plainD (n + 1) (encL e xs) := ⟨by rw [List.length_map]; rw [line_eq] at hl; omega, fun x hx => by
  obtain ⟨y, hy, rfl⟩ := List.mem_map.mp hx
  exact he y hy⟩
theorem plain_LE {xs : List α} (he : PlE n e) (hl : xs.length ≤ sizeLine) (hk : n + 1 ≤ k := by decide) : plainD k (encL e xs) := by
  obtain ⟨j, rfl, hj⟩ := pl_succ hk
  exact plain_L (fun x _ => he j x hj) hl
end

/-! proving what is needed -/
theorem bnd_of {α : Type} {a : α} {S : α → Prop} (P : α → Prop) (h : P a) (hs : ∀ v, P v → S v) : bnd a S := hs a h
theorem bnd_and {α β : Type} {a : α} {S : α → Prop} {B : α → β} {b : β} (P : α → Prop) (h : P a) (hs : ∀ v, P v → S v ∧ B v = b) : bnd a S ∧ bnd a B = b := hs a h
theorem gd {g S F : Prop} (h : g) (hs : S ∧ F) : (g ∧ S) ∧ F := ⟨⟨h, hs.1⟩, hs.2⟩
/-- a loop over a run of whole numbers: what it needs, and what holds behind it -/
theorem LpS_rng {σ : Type} {S : σ → Int → Prop} {F : σ → Int → σ} {n : Int} {s0 : σ} (I : Int → σ → Prop) (h0 : I 0 s0) (hn : 0 ≤ n) (h : ∀ k s, 0 ≤ k → k < n → I k s → S s k ∧ I (k + 1) (F s k)) : LpS S F (rngI 0 n) s0 ∧ I n ((rngI 0 n).foldl F s0) := by
  have key : ∀ (j : Nat) (lo : Int) (s : σ), 0 ≤ lo → (n - lo).toNat = j → lo ≤ n → I lo s → LpS S F (rngI lo n) s ∧ I n ((rngI lo n).foldl F s) := by
    intro j
    induction j with
    | zero =>
      intro lo s _ e hl hi
      have : lo = n := by omega
      subst this
      rw [rngI_nil (Int.le_refl _)]
      exact ⟨.nil, hi⟩
    | succ j ih =>
      intro lo s h0 e hl hi
      rw [rngI_cons (by omega)]
      obtain ⟨h1, h2⟩ := h lo s h0 (by omega) hi
      obtain ⟨h3, h4⟩ := ih (lo + 1) (F s lo) (by omega) (by omega) (by omega) h2
      exact ⟨.cons h1 h3, h4⟩
  exact key _ 0 s0 (Int.le_refl _) rfl hn h0
theorem fold_rng {σ : Type} {F : σ → Int → σ} {n : Int} {s0 : σ} (I : Int → σ → Prop) (h0 : I 0 s0) (hn : 0 ≤ n) (h : ∀ k s, 0 ≤ k → k < n → I k s → I (k + 1) (F s k)) : I n ((rngI 0 n).foldl F s0) :=
  (LpS_rng (S := fun _ _ => True) I h0 hn fun k s a b c => ⟨trivial, h k s a b c⟩).2
theorem LpS_inv {σ α : Type} {S : σ → α → Prop} {F : σ → α → σ} {xs : List α} {s : σ} (I : σ → Prop) (h0 : I s) (h : ∀ s x, x ∈ xs → I s → S s x ∧ I (F s x)) : LpS S F xs s ∧ I (xs.foldl F s) :=
  ⟨LpS.inv I h0 h, fold_inv I h0 fun s x hx hi => (h s x hx hi).2⟩
theorem LpS_pre {σ α : Type} {S : σ → α → Prop} {F : σ → α → σ} {xs : List α} {s : σ} (I : List α → σ → Prop) (h0 : I [] s) (h : ∀ pre x post s, xs = pre ++ x :: post → I pre s → S s x ∧ I (pre ++ [x]) (F s x)) : LpS S F xs s ∧ I xs (xs.foldl F s) := by
  have key : ∀ (es pre : List α) (s : σ), xs = pre ++ es → I pre s → LpS S F es s ∧ I xs (es.foldl F s) := by
    intro es
    induction es with
    | nil => intro pre s e hi; rw [List.append_nil] at e; subst e; exact ⟨.nil, hi⟩
    | cons x r ih =>
      intro pre s e hi
      obtain ⟨h1, h2⟩ := h pre x r s e hi
      obtain ⟨h3, h4⟩ := ih (pre ++ [x]) (F s x) (by rw [e, List.append_assoc]; rfl) h2
      exact ⟨.cons h1 h3, h4⟩
  exact key xs [] s rfl h0
/-- a loop that finds nothing to leave for -/
theorem loopR_all {τ α : Type} {F : Unit → α → Stp Unit τ} {xs : List α} (h : ∀ x ∈ xs, F () x = .nx ()) : loopR F xs () = .nx () := by
  induction xs with
  | nil => rfl
  | cons x r ih => rw [loopR_cons, h x (List.mem_cons_self ..)]; exact ih fun y hy => h y (List.mem_cons_of_mem _ hy)
theorem LpR_all {τ α : Type} {S : Unit → α → Prop} {F : Unit → α → Stp Unit τ} {xs : List α} (h : ∀ x ∈ xs, S () x) : LpR S F xs () := LpR.inv (fun _ => True) trivial fun s x hx _ => ⟨h x hx, fun _ _ => trivial⟩
theorem el_nx {σ τ V : Type} {s : σ} {f : τ → V} {g : σ → V} : (Lp.nx s : Lp σ τ).el f g = g s := rfl
theorem el_rt {σ τ V : Type} {v : τ} {f : τ → V} {g : σ → V} : (Lp.rt v : Lp σ τ).el f g = f v := rfl
/-- a search -/
theorem loopR_find {α β : Type} {F : Unit → α → Stp Unit β} (p : α → Bool) (f : α → β) (h : ∀ x, F () x = if p x = true then .rt (f x) else .nx ()) : ∀ xs : List α, loopR F xs () = match xs.find? p with
    | some x => .rt (f x)
    | none => .nx ()
  | [] => rfl
  | x :: r => by
    rw [loopR_cons, h x, List.find?_cons]
    cases p x with
    | true => rfl
    | false => exact loopR_find p f h r
end PV
namespace PV
open PySem
section
variable {p : Pt} {α V : Type} {QQ : V → RS → Prop} {c : Evn → RS} {i : Nat} {eγ : α → PyData} {B : List α → V} {S' : List α → Prop} {xs : List α}
theorem ts_setIxG {fk fe : Evn → RE PyData} {j : Int} {x : α} (h0 : atP p i = some (.own (xs.map eγ))) (hk : TM p fk (.int j)) (h : TM p fe (eγ x)) (hl : ixOk xs.length j) (hS : bnd (xs.set j.toNat x) S') (hm : ∀ v, S' v → TS (stP p i (some (.own (v.map eγ)))) c (QQ (B v))) : TS p (sThen (sSetIx i fk fe) c) (QQ (bnd (xs.set j.toNat x) B)) :=
  ts_setIx h0 hk h hl (hm _ hS)
theorem ts_augIxG {fk fe : Evn → RE PyData} {o : Int → Int → Int} {j y : Int} {xs : List Int} {B : List Int → V} {S' : List Int → Prop} (h0 : atP p i = some (.own (xs.map PyData.int))) (hk : TM p fk (.int j)) (h : TM p fe (.int y)) (hl : ixOk xs.length j) (hS : bnd (xs.set j.toNat (o (xs.getD j.toNat 0) y)) S') (hm : ∀ v, S' v → TS (stP p i (some (.own (v.map PyData.int)))) c (QQ (B v))) : TS p (sThen (sAugIx i fk o fe) c) (QQ (bnd (xs.set j.toNat (o (xs.getD j.toNat 0) y)) B)) :=
  ts_augIx h0 hk h hl (hm _ hS)
end
end PV
namespace PV
open PySem
theorem t_coL {p : Pt} {α β : Type} {f : Evn → RE PyData} {e : α → PyData} {e' : β → PyData} {xs : List α} (c : α → β) (hc : ∀ x, e' (c x) = e x) (h : TM p f (encL e xs)) : TM p f (encL e' (xs.map c)) := by
  have : encL e' (xs.map c) = encL e xs := by
    show PyData.list ((xs.map c).map e') = PyData.list (xs.map e)
    rw [List.map_map]
    exact congrArg PyData.list (List.map_congr_left fun x _ => hc x)
  rw [this]; exact h
end PV
namespace PV
open PySem
theorem t_coE {p : Pt} {α β : Type} {f : Evn → RE PyData} {e : α → PyData} {e' : β → PyData} {x : α} (y : β) (hc : e' y = e x) (h : TM p f (e x)) : TM p f (e' y) := by rw [hc]; exact h
end PV

namespace PV
open PySem
section
variable {α : Type} {e : α → PyData} {xs : List α}
theorem f_items : itemsOf (encL e xs) = some (xs.map e) := rfl
theorem f_itemsU : itemsOf (encU e xs) = some (xs.map e) := rfl
theorem f_pLst : pLst (encL e xs) = .ok (xs.map e) := rfl
theorem f_listL : bList [encL e xs] = some (encL e xs) := rfl
theorem f_listU : bList [encU e xs] = some (encL e xs) := rfl
theorem f_tupL : bTuple [encL e xs] = some (encU e xs) := rfl
end
end PV
namespace PV
open PySem
/-- of a part that goes on or leaves the def -/
def QR {σ τ : Type} (E : σ → Pt) (e : τ → PyData) (r : Lp σ τ) (o : RS) : Prop := ∃ fl ρ', o = .ok (fl, ρ') ∧ match r with
  | .nx s => fl = .nx ∧ Sh (E s) ρ'
  | .rt v => fl = .rt (e v)
section
variable {p : Pt} {σ τ V : Type} {QQ : V → RS → Prop} {c : Evn → RS} {f : Evn → RE PyData} {E : σ → Pt} {eτ : τ → PyData}
theorem ts_retR {v : τ} (h : TM p f (eτ v)) : TS p (sThen (sRet f) c) (QR E eτ (.rt v)) := fun ρ hs => by
  rw [then_ret h c hs]; exact ⟨_, _, rfl, rfl⟩
theorem ts_finR {s : σ} (h : Sb p (E s)) : TS p sNx (QR E eτ (.nx s)) := fun ρ hs => ⟨_, _, rfl, rfl, h.sh hs⟩
theorem kR {σ' : Type} {E' : σ' → Pt} {v : τ} {ρ : Evn} : QR E' eτ (.rt v) (.ok (.rt (eτ v), ρ)) := ⟨_, _, rfl, rfl⟩
theorem ts_joinR {A C : Evn → RS} {t : Evn → RE Bool} {k : Bool} {u v : Lp σ τ} {K : τ → V} {G : σ → V} (hK : ∀ v ρ, QQ (K v) (.ok (.rt (eτ v), ρ))) (hc : TM p t k) (ha : k = true → TS p A (QR E eτ u)) (hb : k = false → TS p C (QR E eτ v)) (hr : ∀ s, (if k = true then u else v) = .nx s → TS (E s) c (QQ (G s))) : TS p (sThen (sIf t A C) c) (QQ ((if k = true then u else v).el K G)) := fun ρ hs => by
  have key : ∀ (M : Evn → RS) (r : Lp σ τ), TS p M (QR E eτ r) → (∀ s, r = .nx s → TS (E s) c (QQ (G s))) → QQ (r.el K G) (sThen M c ρ) := by
    intro M r hM hr
    obtain ⟨fl, ρ', h1, h2⟩ := hM ρ hs
    rw [e_sThen, h1, bind_ok]
    cases r with
    | nx s =>
      obtain ⟨rfl, h3⟩ := h2
      exact hr s rfl ρ' h3
    | rt v =>
      have h2' : fl = .rt (eτ v) := h2
      subst h2'
      exact hK v ρ'
  rw [then_if hc hs]
  cases k with
  | true =>
    rw [if_pos rfl] at hr
    rw [if_pos rfl, if_pos rfl]
    exact key A u (ha rfl) hr
  | false =>
    rw [if_neg (by decide)] at hr
    rw [if_neg (by decide), if_neg (by decide)]
    exact key C v (hb rfl) hr
end
end PV
namespace PV
open PySem
theorem t_coM {p : Pt} {α β : Type} {m : Evn → RE (List PyData)} {e : α → PyData} {e' : β → PyData} {xs : List α} (c : α → β) (hc : ∀ x, e' (c x) = e x) (h : TM p m (xs.map e)) : TM p m ((xs.map c).map e') := by
  rw [List.map_map]
  have : xs.map (e' ∘ c) = xs.map e := List.map_congr_left fun x _ => hc x
  rw [this]; exact h
theorem t_coM0 {p : Pt} {β : Type} {m : Evn → RE (List PyData)} {e' : β → PyData} (h : TM p m []) : TM p m (([] : List β).map e') := h
end PV
namespace PV
open PySem
theorem t_cat {p : Pt} {α : Type} {e : α → PyData} {fa fb : Evn → RE PyData} {xs ys : List α} (ha : TM p fa (encL e xs)) (hb : TM p fb (encL e ys)) (h : xs.length + ys.length ≤ sizeLine) : TM p (mCat fa fb) ((xs ++ ys).map e) := fun ρ hs => by
  rw [e_mCat, ha ρ hs, bind_ok, hb ρ hs, bind_ok]
  show (if (xs.map e).length + (ys.map e).length ≤ sizeLine then R.ok (xs.map e ++ ys.map e) else .bad) = _
  rw [List.length_map, List.length_map, if_pos h, List.map_append]
end PV
namespace PV
open PySem
/-! loops that are left by break alone -/
def eE : Empty → PyData := fun v => nomatch v
def Lp.got {σ : Type} (r : Lp σ Empty) : σ := match r with
  | .nx s => s
  | .rt v => nomatch v
theorem Lp.got_nx {σ : Type} {r : Lp σ Empty} {s : σ} (h : r = .nx s) : r.got = s := by rw [h]; rfl
theorem Lp.is_nx {σ : Type} (r : Lp σ Empty) : r = .nx r.got := by cases r with
  | nx s => rfl
  | rt v => exact nomatch v
section
variable {p : Pt} {σ α V : Type} {QQ : V → RS → Prop} {body c : Evn → RS} {w : Evn → RE (List PyData)} {g : PyData → Evn → Option Evn} {E : σ → Pt} {e : α → PyData} {xs : List α} {s0 : σ} {q : σ → α → Pt} {B : σ → V} {S' : σ → Prop} {tt : Evn → RE Bool} {n : Nat}
theorem ts_forB {S : σ → α → Prop} {F : σ → α → Stp σ Empty} (h0 : Sb p (E s0)) (hw : TM p w (xs.map e)) (hl : LpR S F xs s0) (hg : ∀ s x, TG (E s) g (e x) (q s x)) (hb : ∀ s x, x ∈ xs → S s x → TS (q s x) body (QL E eE (F s x))) (hS : bnd (loopR F xs s0).got S') (hr : ∀ s, S' s → TS (E s) c (QQ (B s))) : TS p (sThen (sFor w g body) c) (QQ (bnd (loopR F xs s0).got B)) := fun ρ hs => by
  obtain ⟨fl, ρ', h1, h2⟩ := for_R hg hb xs s0 ρ (fun _ h => h) hl (h0.sh hs)
  rw [Lp.is_nx (loopR F xs s0)] at h2
  obtain ⟨rfl, h3⟩ := h2
  have k : sThen (sFor w g body) c ρ = c ρ' := by
    rw [e_sThen, e_sFor, hw ρ hs, at_ok, bind_ok, h1, bind_ok]
  rw [k]
  exact hr _ hS ρ' h3
theorem ts_whileB {St Sbo : σ → Prop} {t : σ → Bool} {F : σ → Stp σ Empty} (h0 : Sb p (E s0)) (hl : whS St Sbo t F n s0) (ht : ∀ s, St s → TM (E s) tt (t s)) (hb : ∀ s, t s = true → Sbo s → TS (E s) body (QL E eE (F s))) (hS : bnd (whR t F n s0).got S') (hr : ∀ s, S' s → TS (E s) c (QQ (B s))) : TS p (sThen (whileM tt body n) c) (QQ (bnd (whR t F n s0).got B)) := fun ρ hs => by
  obtain ⟨fl, ρ', h1, h2⟩ := wh_R ht hb n s0 ρ hl (h0.sh hs)
  rw [Lp.is_nx (whR t F n s0)] at h2
  obtain ⟨rfl, h3⟩ := h2
  rw [e_sThen, h1, bind_ok]
  exact hr _ hS ρ' h3
end
end PV
end
section
set_option Elab.async false
set_option linter.all false
set_option maxRecDepth 100000
set_option maxHeartbeats 4000000
/-! VQ: what is needed and what is given, proved side by side. -/
namespace PV
open PySem
def Ok {β : Type} (S : Prop) (x : β) (Q : β → Prop) : Prop := S ∧ Q x
section
variable {β γ σ τ α : Type} {S S1 S2 g : Prop} {x y : β} {Q : β → Prop} {a : γ} {S' : γ → Prop} {B : γ → β} {c : Bool}
theorem ok_end (h : S) (q : Q x) : Ok S x Q := ⟨h, q⟩
theorem ok_g (h : g) (k : Ok S x Q) : Ok (g ∧ S) x Q := ⟨⟨h, k.1⟩, k.2⟩
theorem ok_bnd (P : γ → Prop) (h : P a) (k : ∀ v, P v → Ok (S' v) (B v) Q) : Ok (bnd a S') (bnd a B) Q := k a h
theorem ok_bnd0 (P : γ → Prop) (h : P a) (k : ∀ v, P v → Ok S (B v) Q) : Ok S (bnd a B) Q := k a h
theorem ok_bndG (P : γ → Prop) (h : g) (h' : P a) (k : ∀ v, P v → Ok (S' v) (B v) Q) : Ok (g ∧ bnd a S') (bnd a B) Q := ok_g h (k a h')
theorem ok_if (h1 : c = true → Ok S1 x Q) (h2 : c = false → Ok S2 y Q) : Ok ((c = true → S1) ∧ (c = false → S2)) (if c = true then x else y) Q := by
  cases c with
  | true => exact ⟨⟨fun _ => (h1 rfl).1, fun h => nomatch h⟩, by rw [if_pos rfl]; exact (h1 rfl).2⟩
  | false => exact ⟨⟨(fun h => nomatch h), fun _ => (h2 rfl).1⟩, by rw [if_neg (by decide)]; exact (h2 rfl).2⟩
theorem ok_ifT (h1 : c = true → Ok S1 x Q) (h2 : c = false → Q y) : Ok (c = true → S1) (if c = true then x else y) Q := by
  cases c with
  | true => exact ⟨fun _ => (h1 rfl).1, by rw [if_pos rfl]; exact (h1 rfl).2⟩
  | false => exact ⟨(fun h => nomatch h), by rw [if_neg (by decide)]; exact h2 rfl⟩
theorem ok_ifF (h1 : c = true → Q x) (h2 : c = false → Ok S2 y Q) : Ok (c = false → S2) (if c = true then x else y) Q := by
  cases c with
  | true => exact ⟨(fun h => nomatch h), by rw [if_pos rfl]; exact h1 rfl⟩
  | false => exact ⟨fun _ => (h2 rfl).1, by rw [if_neg (by decide)]; exact (h2 rfl).2⟩
/-- an if that is not taken -/
theorem ok_no (hc : c = false) (h2 : Ok S2 y Q) : Ok (c = false → S2) (if c = true then x else y) Q := ok_ifF (fun h => by rw [hc] at h; cases h) fun _ => h2
theorem ok_no0 (hc : c = false) (h2 : Ok S y Q) : Ok S (if c = true then x else y) Q := by rw [hc, if_neg (by decide)]; exact h2
theorem ok_noB (hc : c = false) (h2 : Ok S2 y Q) : Ok ((c = true → S1) ∧ (c = false → S2)) (if c = true then x else y) Q := ok_if (fun h => by rw [hc] at h; cases h) fun _ => h2
theorem ok_for {xs : List α} {F : σ → α → σ} {Sb : σ → α → Prop} {s0 : σ} {S' : σ → Prop} {B : σ → β} (I : σ → Prop) (h : LpS Sb F xs s0 ∧ I (xs.foldl F s0)) (k : ∀ s, I s → Ok (S' s) (B s) Q) : Ok (LpS Sb F xs s0 ∧ bnd (xs.foldl F s0) S') (bnd (xs.foldl F s0) B) Q := ok_g h.1 (k _ h.2)
theorem ok_for0 {xs : List α} {F : σ → α → σ} {Sb : σ → α → Prop} {s0 : σ} {B : σ → β} (I : σ → Prop) (h : LpS Sb F xs s0 ∧ I (xs.foldl F s0)) (k : ∀ s, I s → Q (B s)) : Ok (LpS Sb F xs s0) (bnd (xs.foldl F s0) B) Q := ⟨h.1, k _ h.2⟩
/-- a loop that goes through -/
theorem ok_forR {xs : List α} {F : σ → α → Stp σ τ} {Sb : σ → α → Prop} {s0 s1 : σ} {K : τ → β} {G : σ → β} {S2 : σ → Prop} (h1 : LpR Sb F xs s0) (h2 : loopR F xs s0 = .nx s1) (k : Ok (S2 s1) (G s1) Q) : Ok (LpR Sb F xs s0 ∧ ∀ s, loopR F xs s0 = .nx s → S2 s) ((loopR F xs s0).el K G) Q := by
  refine ⟨⟨h1, fun s e => ?_⟩, ?_⟩
  · rw [h2] at e; cases e; exact k.1
  · rw [h2]; exact k.2
theorem ok_forR0 {xs : List α} {F : σ → α → Stp σ τ} {Sb : σ → α → Prop} {s0 s1 : σ} {K : τ → β} {G : σ → β} (h1 : LpR Sb F xs s0) (h2 : loopR F xs s0 = .nx s1) (k : Q (G s1)) : Ok (LpR Sb F xs s0) ((loopR F xs s0).el K G) Q := ⟨h1, by rw [h2]; exact k⟩
theorem Ok.mono {Q' : β → Prop} (h : Ok S x Q) (q : ∀ x, Q x → Q' x) : Ok S x Q' := ⟨h.1, q _ h.2⟩
end
/-- a walk that goes through, each turn being right -/
theorem ok_all {τ α : Type} {Sb : Unit → α → Prop} {F : Unit → α → Stp Unit τ} {xs : List α} (h : ∀ x ∈ xs, Sb () x ∧ F () x = .nx ()) : LpR Sb F xs () ∧ loopR F xs () = .nx () := ⟨LpR_all fun x hx => (h x hx).1, loopR_all fun x hx => (h x hx).2⟩
end PV
namespace PV
open PySem
theorem loop_any {τ α : Type} {F : Unit → α → Stp Unit τ} {v : τ} (c : α → Bool) : ∀ {xs : List α}, (∀ x ∈ xs, F () x = if c x = true then .rt v else .nx ()) → loopR F xs () = if xs.any c = true then .rt v else .nx ()
  | [], _ => rfl
  | x :: r, h => by
    rw [loopR_cons, h x (List.mem_cons_self ..), List.any_cons]
    cases c x with
    | true => rfl
    | false => exact loop_any c fun y hy => h y (List.mem_cons_of_mem _ hy)
theorem take_succ_sum (l : List Int) (m : Nat) : (l.take (m + 1)).sum = (l.take m).sum + l.getD m 0 := by
  induction l generalizing m with
  | nil => simp
  | cons x r ih => cases m with
    | zero => simp
    | succ m => rw [List.take_succ_cons, List.take_succ_cons, List.sum_cons, List.sum_cons, ih, List.getD_cons_succ]; omega
theorem getD_drop (l : List Int) (a m : Nat) : (l.drop a).getD m 0 = l.getD (a + m) 0 := by
  rw [List.getD_eq_getElem?_getD, List.getD_eq_getElem?_getD, List.getElem?_drop]
theorem gd_mem {α : Type} {l : List α} {i : Nat} {d : α} (h : i < l.length) : l.getD i d ∈ l := by
  rw [List.getD_eq_getElem?_getD, List.getElem?_eq_getElem h]; exact List.getElem_mem h
theorem getD_rngI {lo hi : Int} {i : Nat} {d : Int} (h : i < (hi - lo).toNat) : (rngI lo hi).getD i d = lo + i := by
  rw [List.getD_eq_getElem?_getD, rngI_get h]; rfl
theorem all_map {α : Type} (l : List α) (f : α → Bool) : (l.map f).all id = l.all f := by rw [List.all_map]; rfl
theorem any_map' {α : Type} (l : List α) (f : α → Bool) : (l.map f).any id = l.any f := by rw [List.any_map]; rfl
end PV
namespace PV
open PySem
theorem get3P {α : Type} {P : α → Prop} {a b c z : α} {i : Int} (h0 : 0 ≤ i) (h1 : i < 3) (ha : P a) (hb : P b) (hc : P c) : P ([a, b, c].getD i.toNat z) := by
  have : i = 0 ∨ i = 1 ∨ i = 2 := by omega
  rcases this with e | e | e <;> subst e <;> assumption
theorem get4P {α : Type} {P : α → Prop} {a b c d z : α} {i : Int} (h0 : 0 ≤ i) (h1 : i < 4) (ha : P a) (hb : P b) (hc : P c) (hd : P d) : P ([a, b, c, d].getD i.toNat z) := by
  have : i = 0 ∨ i = 1 ∨ i = 2 ∨ i = 3 := by omega
  rcases this with e | e | e | e <;> subst e <;> assumption
theorem get2P {α : Type} {P : α → Prop} {a b z : α} {i : Int} (h0 : 0 ≤ i) (h1 : i < 2) (ha : P a) (hb : P b) : P ([a, b].getD i.toNat z) := by
  have : i = 0 ∨ i = 1 := by omega
  rcases this with e | e <;> subst e <;> assumption
theorem get5P {α : Type} {P : α → Prop} {a b c d f z : α} {i : Int} (h0 : 0 ≤ i) (h1 : i < 5) (ha : P a) (hb : P b) (hc : P c) (hd : P d) (hf : P f) : P ([a, b, c, d, f].getD i.toNat z) := by
  have : i = 0 ∨ i = 1 ∨ i = 2 ∨ i = 3 ∨ i = 4 := by omega
  rcases this with e | e | e | e | e <;> subst e <;> assumption
theorem get6P {α : Type} {P : α → Prop} {a b c d f g z : α} {i : Int} (h0 : 0 ≤ i) (h1 : i < 6) (ha : P a) (hb : P b) (hc : P c) (hd : P d) (hf : P f) (hg : P g) : P ([a, b, c, d, f, g].getD i.toNat z) := by
  have : i = 0 ∨ i = 1 ∨ i = 2 ∨ i = 3 ∨ i = 4 ∨ i = 5 := by omega
  rcases this with e | e | e | e | e | e <;> subst e <;> assumption
theorem gd_snoc {α : Type} {l : List α} {x z : α} {i : Nat} (h : i = l.length) : (l ++ [x]).getD i z = x := by
  rw [List.getD_eq_getElem?_getD, List.getElem?_append_right (by omega)]
  have : i - l.length = 0 := by omega
  rw [this]; rfl
theorem gd_app {α : Type} {l m : List α} {z : α} {i : Nat} (h : i < l.length) : (l ++ m).getD i z = l.getD i z := by
  rw [List.getD_eq_getElem?_getD, List.getElem?_append_left h, ← List.getD_eq_getElem?_getD]
/-- items of what is drawn -/
theorem pk {ds : List Int} {m : Int} (h : ∀ x ∈ ds, 0 ≤ x ∧ x < m) (i : Nat) (hi : i < ds.length) : 0 ≤ ds.getD i 0 ∧ ds.getD i 0 < m := h _ (gd_mem hi)
end PV
namespace PV
open PySem
theorem LpR_rng {σ τ : Type} {S : σ → Int → Prop} {F : σ → Int → Stp σ τ} {n : Int} {s0 : σ} (I : Int → σ → Prop) (h0 : I 0 s0) (hn : 0 ≤ n) (h : ∀ k s, 0 ≤ k → k < n → I k s → S s k ∧ ∃ s', F s k = .nx s' ∧ I (k + 1) s') : LpR S F (rngI 0 n) s0 ∧ ∃ s, loopR F (rngI 0 n) s0 = .nx s ∧ I n s := by
  have key : ∀ (j : Nat) (lo : Int) (s : σ), 0 ≤ lo → (n - lo).toNat = j → lo ≤ n → I lo s → LpR S F (rngI lo n) s ∧ ∃ s', loopR F (rngI lo n) s = .nx s' ∧ I n s' := by
    intro j
    induction j with
    | zero =>
      intro lo s _ e hl hi
      have : lo = n := by omega
      subst this
      rw [rngI_nil (Int.le_refl _)]
      exact ⟨.nil, s, rfl, hi⟩
    | succ j ih =>
      intro lo s h0 e hl hi
      rw [rngI_cons (by omega)]
      obtain ⟨h1, s', h2, h3⟩ := h lo s h0 (by omega) hi
      obtain ⟨h4, s'', h5, h6⟩ := ih (lo + 1) s' (by omega) (by omega) (by omega) h3
      refine ⟨.cons h1 (fun s3 e => by rw [h2] at e; cases e; exact h4), s'', ?_, h6⟩
      · rw [loopR_cons, h2]; exact h5
  exact key _ 0 s0 (Int.le_refl _) rfl hn h0
theorem ok_forI {β σ τ α : Type} {Q : β → Prop} {xs : List α} {F : σ → α → Stp σ τ} {Sb : σ → α → Prop} {s0 : σ} {K : τ → β} {G : σ → β} {S2 : σ → Prop} (I : σ → Prop) (h : LpR Sb F xs s0 ∧ ∃ s, loopR F xs s0 = .nx s ∧ I s) (k : ∀ s, I s → Ok (S2 s) (G s) Q) : Ok (LpR Sb F xs s0 ∧ ∀ s, loopR F xs s0 = .nx s → S2 s) ((loopR F xs s0).el K G) Q := by
  obtain ⟨h1, s, h2, h3⟩ := h
  exact ok_forR h1 h2 (k s h3)
/-- a walk that finds nothing amiss -/
theorem ok_walk {β τ α : Type} {Q : β → Prop} {xs : List α} {F : Unit → α → Stp Unit τ} {Sb : Unit → α → Prop} {K : τ → β} {G : Unit → β} {S2 : Unit → Prop} (h : ∀ x ∈ xs, Sb () x ∧ F () x = .nx ()) (k : Ok (S2 ()) (G ()) Q) : Ok (LpR Sb F xs () ∧ ∀ s, loopR F xs () = .nx s → S2 s) ((loopR F xs ()).el K G) Q :=
  ok_forR (ok_all h).1 (ok_all h).2 k
theorem ok_walk0 {β τ α : Type} {Q : β → Prop} {xs : List α} {F : Unit → α → Stp Unit τ} {Sb : Unit → α → Prop} {K : τ → β} {G : Unit → β} (h : ∀ x ∈ xs, Sb () x ∧ F () x = .nx ()) (k : Q (G ())) : Ok (LpR Sb F xs ()) ((loopR F xs ()).el K G) Q :=
  ok_forR0 (ok_all h).1 (ok_all h).2 k
theorem if_no {α : Type} {b : Bool} {x y : α} (h : b = false) : (if b = true then x else y) = y := by rw [h]; rfl
theorem rfl_eq {α : Type} [DecidableEq α] {a b : α} (h : a = b) : (!decide (a = b)) = false := by rw [decide_eq_true h]; rfl
theorem len_f {α : Type} {xs : List α} {p : α → Bool} {n : Nat} (h : xs.length ≤ n) : (xs.filter p).length ≤ n := Nat.le_trans (List.length_filter_le _ _) h
end PV
namespace PV
open PySem
theorem wh_ok {σ τ : Type} {St Sb : σ → Prop} {t : σ → Bool} {F : σ → Stp σ τ} {n : Nat} {s0 : σ} (I : σ → Prop) (μ : σ → Nat) (h0 : I s0) (hn : μ s0 < n) (h : ∀ s, I s → St s ∧ (t s = true → Sb s ∧ ∃ s', F s = .nx s' ∧ I s' ∧ μ s' < μ s)) : whS St Sb t F n s0 ∧ ∃ s, whR t F n s0 = .nx s ∧ I s ∧ t s = false := by
  induction n generalizing s0 with
  | zero => exact absurd hn (Nat.not_lt_zero _)
  | succ n ih =>
    obtain ⟨h1, h2⟩ := h s0 h0
    by_cases c : t s0 = true
    · obtain ⟨h3, s', h4, h5, h6⟩ := h2 c
      obtain ⟨g1, s, g2, g3⟩ := ih h5 (by omega)
      refine ⟨.step h1 (fun _ => h3) (fun _ s2 e => by rw [h4] at e; cases e; exact g1), s, ?_, g3⟩
      rw [whR_succ, if_pos c, h4]; exact g2
    · refine ⟨.step h1 (fun q => absurd q c) (fun q => absurd q c), s0, ?_, h0, by simpa using c⟩
      rw [whR_succ, if_neg c]
theorem ok_wh {β σ τ : Type} {Q : β → Prop} {St Sb : σ → Prop} {t : σ → Bool} {F : σ → Stp σ τ} {n : Nat} {s0 : σ} {K : τ → β} {G : σ → β} {S2 : σ → Prop} (I : σ → Prop) (h : whS St Sb t F n s0 ∧ ∃ s, whR t F n s0 = .nx s ∧ I s ∧ t s = false) (k : ∀ s, I s → t s = false → Ok (S2 s) (G s) Q) : Ok (whS St Sb t F n s0 ∧ ∀ s, whR t F n s0 = .nx s → S2 s) ((whR t F n s0).el K G) Q := by
  obtain ⟨h1, s, h2, h3, h4⟩ := h
  refine ⟨⟨h1, fun s' e => ?_⟩, ?_⟩
  · rw [h2] at e; cases e; exact (k s h3 h4).1
  · rw [h2]; exact (k s h3 h4).2
theorem ok_wh0 {β σ τ : Type} {Q : β → Prop} {St Sb : σ → Prop} {t : σ → Bool} {F : σ → Stp σ τ} {n : Nat} {s0 : σ} {K : τ → β} {G : σ → β} (I : σ → Prop) (h : whS St Sb t F n s0 ∧ ∃ s, whR t F n s0 = .nx s ∧ I s ∧ t s = false) (k : ∀ s, I s → t s = false → Q (G s)) : Ok (whS St Sb t F n s0) ((whR t F n s0).el K G) Q := by
  obtain ⟨h1, s, h2, h3, h4⟩ := h
  exact ⟨h1, by rw [h2]; exact k s h3 h4⟩
/-- a search that finds -/
theorem ok_find {β τ α : Type} {Q : β → Prop} {xs : List α} {F : Unit → α → Stp Unit τ} {Sb : Unit → α → Prop} {K : τ → β} {G : Unit → β} (p : α → Bool) (f : α → τ) (hS : ∀ x ∈ xs, Sb () x) (hF : ∀ x, F () x = if p x = true then .rt (f x) else .nx ()) (hex : ∃ x ∈ xs, p x = true) (k : ∀ x ∈ xs, p x = true → Q (K (f x))) : Ok (LpR Sb F xs ()) ((loopR F xs ()).el K G) Q := by
  refine ⟨LpR_all hS, ?_⟩
  rw [loopR_find p f hF]
  cases c : xs.find? p with
  | none =>
    obtain ⟨x, hx, hp⟩ := hex
    exact absurd hp (List.find?_eq_none.mp c x hx)
  | some x => exact k x (List.mem_of_find?_eq_some c) (List.find?_some c)
theorem inc_of {xs : List Int} (h1 : List.Pairwise (fun a b => a ≤ b) xs) (h2 : xs.Nodup) : ∀ k : Nat, k + 1 < xs.length → xs.getD k 0 < xs.getD (k + 1) 0 := by
  intro k hk
  rw [List.getD_eq_getElem?_getD, List.getD_eq_getElem?_getD, List.getElem?_eq_getElem (by omega), List.getElem?_eq_getElem hk, Option.getD_some, Option.getD_some]
  have a := List.pairwise_iff_getElem.mp h1 k (k + 1) (by omega) hk (by omega)
  have b := List.pairwise_iff_getElem.mp h2 k (k + 1) (by omega) hk (by omega)
  omega
theorem sum_perm' {a b : List Int} (h : a.Perm b) : a.sum = b.sum := by
  induction h with
  | nil => rfl
  | cons x _ ih => rw [List.sum_cons, List.sum_cons, ih]
  | swap x y l => simp only [List.sum_cons]; omega
  | trans _ _ h1 h2 => exact h1.trans h2
end PV
namespace PV
open PySem
/-- a loop whose turns all go on -/
theorem LpR_step {σ τ α : Type} {S : σ → α → Prop} {F : σ → α → Stp σ τ} {xs : List α} {s0 : σ} (G : σ → α → σ) (h : ∀ x ∈ xs, ∀ s, S s x ∧ F s x = .nx (G s x)) : LpR S F xs s0 ∧ ∃ s, loopR F xs s0 = .nx s ∧ s = xs.foldl G s0 := by
  induction xs generalizing s0 with
  | nil => exact ⟨.nil, s0, rfl, rfl⟩
  | cons x r ih =>
    obtain ⟨h1, h2⟩ := h x (List.mem_cons_self ..) s0
    obtain ⟨i1, s, i2, i3⟩ := ih (s0 := G s0 x) (fun y hy => h y (List.mem_cons_of_mem _ hy))
    refine ⟨.cons h1 (fun s' e => by rw [h2] at e; cases e; exact i1), s, ?_, i3⟩
    rw [loopR_cons, h2]; exact i2
theorem ok_forI0 {β σ τ α : Type} {Q : β → Prop} {xs : List α} {F : σ → α → Stp σ τ} {Sb : σ → α → Prop} {s0 : σ} {K : τ → β} {G : σ → β} (I : σ → Prop) (h : LpR Sb F xs s0 ∧ ∃ s, loopR F xs s0 = .nx s ∧ I s) (k : ∀ s, I s → Q (G s)) : Ok (LpR Sb F xs s0) ((loopR F xs s0).el K G) Q := by
  obtain ⟨h1, s, h2, h3⟩ := h
  exact ok_forR0 h1 h2 (k s h3)
theorem fold_ge {α : Type} (c : α → Int) (hc : ∀ x, 0 ≤ c x) : ∀ (xs : List α) (g : Int), g ≤ xs.foldl (fun s x => s + c x) g
  | [], g => Int.le_refl _
  | x :: r, g => by
    have := fold_ge c hc r (g + c x)
    have := hc x
    rw [List.foldl_cons]
    omega
end PV
namespace PV
open PySem
theorem ok_elN {β σ τ : Type} {Q : β → Prop} {r : Lp σ τ} {s : σ} {K : τ → β} {G : σ → β} {S2 : σ → Prop} (h : r = .nx s) (k : Ok (S2 s) (G s) Q) : Ok (∀ s, r = .nx s → S2 s) (r.el K G) Q := by
  subst h
  exact ⟨fun s' e => by cases e; exact k.1, k.2⟩
end PV
namespace PV
open PySem
theorem loopR_st {σ τ : Type} {S : σ → Int → Prop} {F : σ → Int → Stp σ τ} {n : Int} {v : τ} {s0 : σ} (st : Int → σ) (c : Int → Bool) (h0 : s0 = st 0) (hn : 0 ≤ n) (hS : ∀ k, 0 ≤ k → k < n → S (st k) k) (h : ∀ k, 0 ≤ k → k < n → F (st k) k = if c k = true then .rt v else .nx (st (k + 1))) : LpR S F (rngI 0 n) s0 ∧ loopR F (rngI 0 n) s0 = if (rngI 0 n).any c = true then .rt v else .nx (st n) := by
  subst h0
  have key : ∀ (j : Nat) (lo : Int), 0 ≤ lo → (n - lo).toNat = j → lo ≤ n → LpR S F (rngI lo n) (st lo) ∧ loopR F (rngI lo n) (st lo) = if (rngI lo n).any c = true then .rt v else .nx (st n) := by
    intro j
    induction j with
    | zero =>
      intro lo _ e hl
      have : lo = n := by omega
      subst this
      rw [rngI_nil (Int.le_refl _)]
      exact ⟨.nil, rfl⟩
    | succ j ih =>
      intro lo l0 e hl
      rw [rngI_cons (by omega)]
      have h1 := h lo l0 (by omega)
      obtain ⟨i1, i2⟩ := ih (lo + 1) (by omega) (by omega) (by omega)
      rw [loopR_cons, h1, List.any_cons]
      cases cc : c lo with
      | true =>
        rw [cc] at h1
        exact ⟨.cons (hS lo l0 (by omega)) (fun s3 e => by rw [h1] at e; cases e), rfl⟩
      | false =>
        rw [cc] at h1
        refine ⟨.cons (hS lo l0 (by omega)) (fun s3 e => ?_), ?_⟩
        · rw [h1] at e
          have e' : st (lo + 1) = s3 := Stp.nx.inj e
          rw [← e']; exact i1
        · exact i2
  exact key _ 0 (Int.le_refl _) rfl hn
theorem ok_st {β σ τ : Type} {Q : β → Prop} {Sb : σ → Int → Prop} {F : σ → Int → Stp σ τ} {n : Int} {s0 : σ} {K : τ → β} {G : σ → β} {S2 : σ → Prop} (v : τ) (st : Int → σ) (c : Int → Bool) (h0 : s0 = st 0) (hn : 0 ≤ n) (hS : ∀ k, 0 ≤ k → k < n → Sb (st k) k) (h : ∀ k, 0 ≤ k → k < n → F (st k) k = if c k = true then .rt v else .nx (st (k + 1))) (k1 : (rngI 0 n).any c = true → Q (K v)) (k2 : (rngI 0 n).any c = false → Ok (S2 (st n)) (G (st n)) Q) : Ok (LpR Sb F (rngI 0 n) s0 ∧ ∀ s, loopR F (rngI 0 n) s0 = .nx s → S2 s) ((loopR F (rngI 0 n) s0).el K G) Q := by
  obtain ⟨l1, l2⟩ := loopR_st (S := Sb) (F := F) st c h0 hn hS h
  unfold Ok
  rw [l2]
  cases cc : (rngI 0 n).any c with
  | true => exact ⟨⟨l1, fun s e => nomatch e⟩, k1 cc⟩
  | false => exact ⟨⟨l1, fun s e => by
      have e' : st n = s := by rw [if_neg (by decide)] at e; exact Lp.nx.inj e
      rw [← e']; exact (k2 cc).1⟩, (k2 cc).2⟩
theorem ok_st0 {β σ τ : Type} {Q : β → Prop} {Sb : σ → Int → Prop} {F : σ → Int → Stp σ τ} {n : Int} {s0 : σ} {K : τ → β} {G : σ → β} (v : τ) (st : Int → σ) (c : Int → Bool) (h0 : s0 = st 0) (hn : 0 ≤ n) (hS : ∀ k, 0 ≤ k → k < n → Sb (st k) k) (h : ∀ k, 0 ≤ k → k < n → F (st k) k = if c k = true then .rt v else .nx (st (k + 1))) (k1 : (rngI 0 n).any c = true → Q (K v)) (k2 : (rngI 0 n).any c = false → Q (G (st n))) : Ok (LpR Sb F (rngI 0 n) s0) ((loopR F (rngI 0 n) s0).el K G) Q := by
  obtain ⟨l1, l2⟩ := loopR_st (S := Sb) (F := F) st c h0 hn hS h
  unfold Ok
  rw [l2]
  cases cc : (rngI 0 n).any c with
  | true => exact ⟨l1, k1 cc⟩
  | false => exact ⟨l1, k2 cc⟩
theorem any_rng {n : Int} {c : Int → Bool} : (rngI 0 n).any c = false ↔ ∀ k, 0 ≤ k → k < n → c k = false := by
  rw [List.any_eq_false]
  constructor
  · intro h k k0 k1
    have := h k (rngI_mem.mpr ⟨k0, k1⟩)
    simpa using this
  · intro h k hk
    obtain ⟨k0, k1⟩ := rngI_mem.mp hk
    rw [h k k0 k1]; decide
theorem rng_len (n : Nat) : (rngI 0 (n : Int)).length = n := by rw [rngI_len]; omega
theorem enumI_eq {α : Type} (d : α) : ∀ (xs : List α) (k : Int), enumI k xs = (rngI k (k + xs.length)).map fun i => (i, xs.getD (i - k).toNat d)
  | [], k => by rw [rngI_nil (by simp)]; rfl
  | x :: r, k => by
    rw [rngI_cons (by rw [List.length_cons]; omega), List.map_cons]
    have e : k + ((x :: r).length : Int) = k + 1 + (r.length : Int) := by rw [List.length_cons]; omega
    rw [e]
    show (k, x) :: enumI (k + 1) r = _
    rw [enumI_eq d r (k + 1)]
    congr 1
    · have : k - k = 0 := by omega
      rw [this]; rfl
    · apply List.map_congr_left
      intro i hi
      obtain ⟨i0, i1⟩ := rngI_mem.mp hi
      have : (i - k).toNat = (i - (k + 1)).toNat + 1 := by omega
      rw [this, List.getD_cons_succ]
theorem enum0 {α : Type} (d : α) (xs : List α) : enumI 0 xs = (rngI 0 (xs.length : Int)).map fun i => (i, xs.getD i.toNat d) := by
  rw [enumI_eq d xs 0, Int.zero_add]
  apply List.map_congr_left
  intro i _
  rw [Int.sub_zero]
theorem zip_rng {α β : Type} (a : α) (c : β) {xs : List α} {ys : List β} (h : ys.length = xs.length) : xs.zip ys = (rngI 0 (xs.length : Int)).map fun i => (xs.getD i.toNat a, ys.getD i.toNat c) := by
  apply List.ext_getElem
  · rw [List.length_zip, List.length_map, rng_len]; omega
  intro i h1 h2
  rw [List.length_map, rng_len] at h2
  have e : (rngI 0 (xs.length : Int))[i]'(by rw [rng_len]; exact h2) = (i : Int) := by
    have := getD_rngI (lo := 0) (hi := (xs.length : Int)) (i := i) (d := 0) (by omega)
    rw [List.getD_eq_getElem?_getD, List.getElem?_eq_getElem (by rw [rng_len]; exact h2), Option.getD_some] at this
    rw [this]; omega
  rw [List.getElem_zip, List.getElem_map, e, Int.toNat_natCast, List.getD_eq_getElem?_getD, List.getD_eq_getElem?_getD, List.getElem?_eq_getElem h2, List.getElem?_eq_getElem (by omega)]
  rfl
theorem map_id_ {α : Type} (l : List α) : (l.map fun x => x) = l := List.map_id' l
theorem bndS {γ : Type} {a : γ} {S' : γ → Prop} (P : γ → Prop) (h : P a) (k : ∀ v, P v → S' v) : bnd a S' := k a h
theorem forS {σ α : Type} {xs : List α} {F : σ → α → σ} {Sb : σ → α → Prop} {s0 : σ} {S' : σ → Prop} (I : σ → Prop) (h : LpS Sb F xs s0 ∧ I (xs.foldl F s0)) (k : ∀ s, I s → S' s) : LpS Sb F xs s0 ∧ bnd (xs.foldl F s0) S' := ⟨h.1, k _ h.2⟩
theorem LpR_rngE {σ τ : Type} {S : σ → Int → Prop} {F : σ → Int → Stp σ τ} {n : Int} {s0 : σ} (I : Int → σ → Prop) (R : τ → Prop) (h0 : I 0 s0) (hn : 0 ≤ n) (h : ∀ k s, 0 ≤ k → k < n → I k s → S s k ∧ ((∃ s', F s k = .nx s' ∧ I (k + 1) s') ∨ ∃ v, F s k = .rt v ∧ R v)) : LpR S F (rngI 0 n) s0 ∧ ((∃ s, loopR F (rngI 0 n) s0 = .nx s ∧ I n s) ∨ ∃ v, loopR F (rngI 0 n) s0 = .rt v ∧ R v) := by
  have key : ∀ (j : Nat) (lo : Int) (s : σ), 0 ≤ lo → (n - lo).toNat = j → lo ≤ n → I lo s → LpR S F (rngI lo n) s ∧ ((∃ s', loopR F (rngI lo n) s = .nx s' ∧ I n s') ∨ ∃ v, loopR F (rngI lo n) s = .rt v ∧ R v) := by
    intro j
    induction j with
    | zero =>
      intro lo s _ e hl hi
      have : lo = n := by omega
      subst this
      rw [rngI_nil (Int.le_refl _)]
      exact ⟨.nil, .inl ⟨s, rfl, hi⟩⟩
    | succ j ih =>
      intro lo s l0 e hl hi
      rw [rngI_cons (by omega)]
      obtain ⟨h1, h2⟩ := h lo s l0 (by omega) hi
      rcases h2 with ⟨s', e1, i1⟩ | ⟨v, e1, r1⟩
      · obtain ⟨g1, g2⟩ := ih (lo + 1) s' (by omega) (by omega) (by omega) i1
        refine ⟨.cons h1 (fun s3 e => by rw [e1] at e; cases e; exact g1), ?_⟩
        rw [loopR_cons, e1]; exact g2
      · refine ⟨.cons h1 (fun s3 e => by rw [e1] at e; cases e), .inr ⟨v, ?_, r1⟩⟩
        rw [loopR_cons, e1]
  exact key _ 0 s0 (Int.le_refl _) rfl hn h0
theorem ok_rngE {β σ τ : Type} {Q : β → Prop} {S : σ → Int → Prop} {F : σ → Int → Stp σ τ} {n : Int} {s0 : σ} {K : τ → β} {G : σ → β} (I : Int → σ → Prop) (R : τ → Prop) (h0 : I 0 s0) (hn : 0 ≤ n) (h : ∀ k s, 0 ≤ k → k < n → I k s → S s k ∧ ((∃ s', F s k = .nx s' ∧ I (k + 1) s') ∨ ∃ v, F s k = .rt v ∧ R v)) (k1 : ∀ v, R v → Q (K v)) (k2 : ∀ s, I n s → Q (G s)) : Ok (LpR S F (rngI 0 n) s0) ((loopR F (rngI 0 n) s0).el K G) Q := by
  obtain ⟨h1, h2⟩ := LpR_rngE (S := S) (F := F) I R h0 hn h
  rcases h2 with ⟨s, e, i⟩ | ⟨v, e, r⟩
  · exact ⟨h1, by rw [e]; exact k2 s i⟩
  · exact ⟨h1, by rw [e]; exact k1 v r⟩
theorem LpS_map {σ α β : Type} {S : σ → β → Prop} {F : σ → β → σ} (f : α → β) : ∀ (xs : List α) (s : σ), LpS (fun s x => S s (f x)) (fun s x => F s (f x)) xs s → LpS S F (xs.map f) s
  | [], _, _ => .nil
  | x :: r, s, h => .cons h.hd (LpS_map f r _ h.tl)
theorem LpS_enum {σ α : Type} {S : σ → Int × α → Prop} {F : σ → Int × α → σ} {xs : List α} {s0 : σ} (d : α) (I : Int → σ → Prop) (h0 : I 0 s0) (h : ∀ (k : Int) (s : σ), 0 ≤ k → k < xs.length → I k s → S s (k, xs.getD k.toNat d) ∧ I (k + 1) (F s (k, xs.getD k.toNat d))) : LpS S F (enumI 0 xs) s0 ∧ I xs.length ((enumI 0 xs).foldl F s0) := by
  have := LpS_rng (S := fun s k => S s (k, xs.getD k.toNat d)) (F := fun s k => F s (k, xs.getD k.toNat d)) (n := (xs.length : Int)) I h0 (by omega) h
  rw [enum0 d, List.foldl_map]
  exact ⟨LpS_map _ _ _ this.1, this.2⟩
theorem LpS_app {S : List Int → Int → Prop} {f : Int → Int} {n : Nat} (h : ∀ k s, 0 ≤ k → k < (n : Int) → (s : List Int).length = k → S s k) : LpS S (fun s k => s ++ [f k]) (rngI 0 (n : Int)) [] ∧ (rngI 0 (n : Int)).foldl (fun s k => s ++ [f k]) [] = (rngI 0 (n : Int)).map f := by
  have := LpS_rng (S := S) (F := fun s k => s ++ [f k]) (n := (n : Int)) (s0 := []) (fun k s => s = (rngI 0 k).map f ∧ 0 ≤ k) ⟨by rw [rngI_nil (Int.le_refl _)]; rfl, Int.le_refl _⟩ (by omega) (by
    rintro k s k0 k1 ⟨rfl, _⟩
    refine ⟨h k _ k0 k1 (by rw [List.length_map, rngI_len]; omega), ?_, by omega⟩
    rw [rngI_snoc k0, List.map_append]; rfl)
  exact ⟨this.1, this.2.1⟩
end PV
end
section
set_option Elab.async false
set_option linter.all false
set_option maxRecDepth 100000
set_option maxHeartbeats 4000000
/-! VW: plain facts for the plain laws. -/
/-! counting -/
namespace PV
def cn (p : Int → Bool) (lo : Int) : Nat → Int
  | 0 => 0
  | n + 1 => cn p lo n + (if p (lo + n) = true then 1 else 0)
theorem cn_succ (p : Int → Bool) (lo : Int) (n : Nat) : cn p lo (n + 1) = cn p lo n + (if p (lo + n) = true then 1 else 0) := rfl
theorem cn_len (p : Int → Bool) (lo : Int) : ∀ n : Nat, (((rngI lo (lo + n)).filter p).length : Int) = cn p lo n
  | 0 => by rw [rngI_nil (by omega)]; rfl
  | n + 1 => by
    have e : lo + ((n + 1 : Nat) : Int) = lo + n + 1 := by omega
    rw [e, rngI_snoc (by omega), List.filter_append, List.length_append]
    have ih := cn_len p lo n
    show _ = cn p lo n + _
    cases h : p (lo + n) with
    | true => rw [List.filter_cons_of_pos h, if_pos rfl, List.filter_nil, List.length_singleton]; omega
    | false => rw [List.filter_cons_of_neg (by rw [h]; decide), if_neg (by decide), List.filter_nil, List.length_nil]; omega
theorem cn_lenI (p : Int → Bool) {lo hi : Int} (h : lo ≤ hi) : (((rngI lo hi).filter p).length : Int) = cn p lo (hi - lo).toNat := by
  rw [← cn_len, show lo + ((hi - lo).toNat : Int) = hi from by omega]
theorem cn_0 (p : Int → Bool) (lo : Int) : ∀ n : Nat, 0 ≤ cn p lo n
  | 0 => Int.le_refl _
  | n + 1 => by
    have := cn_0 p lo n
    show 0 ≤ cn p lo n + _
    split <;> omega
theorem cn_le (p : Int → Bool) (lo : Int) : ∀ n : Nat, cn p lo n ≤ n
  | 0 => Int.le_refl _
  | n + 1 => by
    have := cn_le p lo n
    show cn p lo n + _ ≤ _
    split <;> omega
theorem cn_add (p : Int → Bool) (lo : Int) (m : Nat) : ∀ n : Nat, cn p lo (m + n) = cn p lo m + cn p (lo + m) n
  | 0 => by show _ = _ + (0 : Int); rw [Nat.add_zero]; omega
  | n + 1 => by
    rw [← Nat.add_assoc, cn_succ, cn_succ, cn_add p lo m n, show lo + ((m + n : Nat) : Int) = lo + m + n from by omega]
    omega
theorem cn_mono (p : Int → Bool) (lo : Int) {m n : Nat} (h : m ≤ n) : cn p lo m ≤ cn p lo n := by
  have := cn_add p lo m (n - m)
  rw [show m + (n - m) = n from by omega] at this
  have := cn_0 p (lo + m) (n - m)
  omega
theorem cn_congr {p q : Int → Bool} {lo : Int} : ∀ {n : Nat}, (∀ d, lo ≤ d → d < lo + n → p d = q d) → cn p lo n = cn q lo n
  | 0, _ => rfl
  | n + 1, h => by
    show cn p lo n + _ = cn q lo n + _
    rw [cn_congr (n := n) fun d h1 h2 => h d h1 (by omega), h (lo + n) (by omega) (by omega)]
theorem cn_none {p : Int → Bool} {lo : Int} {n : Nat} (h : ∀ d, lo ≤ d → d < lo + n → p d = false) : cn p lo n = 0 := by
  rw [cn_congr (q := fun _ => false) h]
  clear h
  induction n with
  | zero => rfl
  | succ n ih => show cn _ lo n + 0 = 0; rw [ih]; rfl
theorem cn_all {p : Int → Bool} {lo : Int} {n : Nat} (h : ∀ d, lo ≤ d → d < lo + n → p d = true) : cn p lo n = n := by
  rw [cn_congr (q := fun _ => true) h]
  clear h
  induction n with
  | zero => rfl
  | succ n ih => show cn _ lo n + 1 = _; rw [ih]; omega
theorem cn_or {p q r : Int → Bool} {lo : Int} : ∀ {n : Nat}, (∀ d, lo ≤ d → d < lo + n → p d = (q d || r d) ∧ ¬ (q d = true ∧ r d = true)) → cn p lo n = cn q lo n + cn r lo n
  | 0, _ => rfl
  | n + 1, h => by
    show cn p lo n + _ = cn q lo n + _ + (cn r lo n + _)
    rw [cn_or (n := n) fun d h1 h2 => h d h1 (by omega)]
    obtain ⟨h1, h2⟩ := h (lo + n) (by omega) (by omega)
    rw [h1]
    cases e1 : q (lo + n) <;> cases e2 : r (lo + n)
    · simp
    · simp; omega
    · simp; omega
    · exact absurd ⟨e1, e2⟩ h2
theorem cn_not (p : Int → Bool) (lo : Int) : ∀ n : Nat, cn (fun d => !p d) lo n = n - cn p lo n
  | 0 => rfl
  | n + 1 => by
    rw [cn_succ, cn_succ, cn_not p lo n]
    cases p (lo + n)
    · simp; omega
    · simp; omega
/-- those within a stretch -/
theorem cn_cut (p : Int → Bool) (a b lo : Int) : ∀ n : Nat, cn (fun d => p d && (decide (a ≤ d) && decide (d ≤ b))) lo n = cn p (max a lo) (max 0 (min b (lo + n - 1) - max a lo + 1)).toNat
  | 0 => by
    have : (max 0 (min b (lo + ((0 : Nat) : Int) - 1) - max a lo + 1)).toNat = 0 := by omega
    rw [this]; rfl
  | n + 1 => by
    rw [cn_succ, cn_cut p a b lo n]
    by_cases h1 : a ≤ lo + n
    · by_cases h2 : lo + n ≤ b
      · have e : (max 0 (min b (lo + ((n + 1 : Nat) : Int) - 1) - max a lo + 1)).toNat = (max 0 (min b (lo + (n : Int) - 1) - max a lo + 1)).toNat + 1 := by omega
        rw [e]
        rw [cn_succ]
        have e2 : max a lo + ((max 0 (min b (lo + (n : Int) - 1) - max a lo + 1)).toNat : Int) = lo + n := by omega
        rw [e2]
        simp [h1, h2]
      · have e : (max 0 (min b (lo + ((n + 1 : Nat) : Int) - 1) - max a lo + 1)).toNat = (max 0 (min b (lo + (n : Int) - 1) - max a lo + 1)).toNat := by omega
        rw [e]
        simp [h2]
    · have e : (max 0 (min b (lo + ((n + 1 : Nat) : Int) - 1) - max a lo + 1)).toNat = 0 := by omega
      have e' : (max 0 (min b (lo + (n : Int) - 1) - max a lo + 1)).toNat = 0 := by omega
      rw [e, e']
      simp [h1]
theorem cn_per {p : Int → Bool} {c : Nat} (hp : ∀ d, p (d + c) = p d) (lo lo' : Int) : cn p lo c = cn p lo' c := by
  have step : ∀ l : Int, cn p (l + 1) c = cn p l c := fun l => by
    have h1 := cn_add p l 1 c
    have h2 := cn_add p l c 1
    rw [Nat.add_comm 1 c] at h1
    have e1 : cn p l 1 = if p l = true then 1 else 0 := by
      show (0 : Int) + (if p (l + ((0 : Nat) : Int)) = true then 1 else 0) = _
      rw [show l + ((0 : Nat) : Int) = l from by omega]; omega
    have e2 : cn p (l + c) 1 = if p l = true then 1 else 0 := by
      show (0 : Int) + (if p (l + c + ((0 : Nat) : Int)) = true then 1 else 0) = _
      rw [show l + c + ((0 : Nat) : Int) = l + c from by omega, hp]; omega
    have e3 : l + ((1 : Nat) : Int) = l + 1 := by omega
    rw [e3] at h1
    omega
  have up : ∀ (k : Nat) (l : Int), cn p (l + k) c = cn p l c := fun k => by
    induction k with
    | zero => intro l; rw [show l + ((0 : Nat) : Int) = l from by omega]
    | succ k ih => intro l; rw [show l + ((k + 1 : Nat) : Int) = l + k + 1 from by omega, step, ih]
  by_cases h : lo ≤ lo'
  · have := up (lo' - lo).toNat lo
    rw [show lo + ((lo' - lo).toNat : Int) = lo' from by omega] at this
    exact this.symm
  · have := up (lo - lo').toNat lo'
    rw [show lo' + ((lo - lo').toNat : Int) = lo from by omega] at this
    exact this
/-- one day -/
theorem cn_one (q : Int → Bool) (x lo : Int) : ∀ n : Nat, cn (fun d => decide (d = x) && q d) lo n = if (decide (lo ≤ x ∧ x < lo + n) && q x) = true then 1 else 0
  | 0 => by rw [decide_eq_false (by omega)]; rfl
  | n + 1 => by
    rw [cn_succ, cn_one q x lo n]
    by_cases h : lo + n = x
    · rw [decide_eq_false (show ¬ (lo ≤ x ∧ x < lo + (n : Int)) by omega), decide_eq_true (show lo ≤ x ∧ x < lo + ((n + 1 : Nat) : Int) by omega), h]
      simp
    · have : decide (lo ≤ x ∧ x < lo + ((n + 1 : Nat) : Int)) = decide (lo ≤ x ∧ x < lo + (n : Int)) := by
        rw [decide_eq_decide]; omega
      rw [this]
      simp [h]
/-- those of a list -/
theorem cn_mem (q : Int → Bool) (lo : Int) (n : Nat) : ∀ {xs : List Int}, xs.Nodup → cn (fun d => decide (d ∈ xs) && q d) lo n = ((xs.filter fun x => decide (lo ≤ x ∧ x < lo + n) && q x).length : Int)
  | [], _ => cn_none fun d _ _ => by simp
  | x :: xs, h => by
    rw [List.nodup_cons] at h
    rw [cn_or (q := fun d => decide (d = x) && q d) (r := fun d => decide (d ∈ xs) && q d) (fun d _ _ => ⟨by
      by_cases h1 : d = x <;> by_cases h2 : d ∈ xs <;> simp [h1, h2], fun ⟨h1, h2⟩ => by
      simp only [Bool.and_eq_true, decide_eq_true_eq] at h1 h2
      exact h.1 (h1.1 ▸ h2.1)⟩), cn_one, cn_mem q lo n h.2]
    rw [List.filter_cons]
    cases c : (decide (lo ≤ x ∧ x < lo + (n : Int)) && q x) with
    | true => rw [if_pos rfl, if_pos rfl, List.length_cons]; omega
    | false => rw [if_neg (by decide), if_neg (by decide)]; omega
end PV
namespace PV
open PySem
theorem sz_ (n : Nat) (h : n ≤ 1000000) : n ≤ sizeLine := by rw [line_eq]; omega
theorem szl_ (n : Nat) (h : n ≤ 1000000) : n < sizeLine := by rw [line_eq]; omega
theorem fold_congr {σ α : Type} {F G : σ → α → σ} : ∀ {xs : List α} {s : σ}, (∀ s x, x ∈ xs → F s x = G s x) → xs.foldl F s = xs.foldl G s
  | [], _, _ => rfl
  | x :: r, s, h => by
    rw [List.foldl_cons, List.foldl_cons, h s x (List.mem_cons_self ..)]
    exact fold_congr fun s y hy => h s y (List.mem_cons_of_mem _ hy)
end PV
/-! ### fractions as a kind -/
namespace PV
open PySem
def encQ (q : Rat) : PyData := .tuple [.int q.num, .int q.den]
theorem rat_ext {p q : Rat} (h1 : p.num = q.num) (h2 : (p.den : Int) = q.den) : p = q := Rat.ext h1 (by omega)
theorem eqe_Q : EqE 1 encQ := ⟨fun p q => by
  have h : PyData.eqv (enc2 PyData.int PyData.int (p.num, (p.den : Int))) (enc2 PyData.int PyData.int (q.num, (q.den : Int))) = decide ((p.num, (p.den : Int)) = (q.num, (q.den : Int))) := (eqe_2 eqe_I eqe_I).ev _ _
  show PyData.eqv (enc2 PyData.int PyData.int (p.num, (p.den : Int))) (enc2 PyData.int PyData.int (q.num, (q.den : Int))) = _
  rw [h, decide_eq_decide]
  constructor
  · intro e; exact rat_ext (congrArg Prod.fst e) (congrArg Prod.snd e)
  · rintro rfl; rfl, fun p => (eqe_2 eqe_I eqe_I).dp (p.num, (p.den : Int))⟩
theorem ple_Q : PlE 2 encQ := fun k q hk => ple_2 ple_I ple_I k (q.num, (q.den : Int)) hk
theorem t_Q1 {p : Pt} {f : Evn → RE PyData} (x : Int) (h : TM p f (enc2 PyData.int PyData.int (x, 1))) : TM p f (encQ ((x : Int) : Rat)) := h
theorem t_Qab {p : Pt} {f : Evn → RE PyData} {a b : Int} {q : Rat} (h1 : q.num = a) (h2 : (q.den : Int) = b) (h : TM p f (enc2 PyData.int PyData.int (a, b))) : TM p f (encQ q) := by
  have e : encQ q = enc2 PyData.int PyData.int (a, b) := by show PyData.tuple [.int q.num, .int q.den] = .tuple [.int a, .int b]; rw [h1, h2]
  rw [e]; exact h
def qabs (q : Rat) : Rat := if q < 0 then -q else q
theorem qabs_num (q : Rat) : (qabs q).num = (q.num.natAbs : Int) ∧ (qabs q).den = q.den := by
  unfold qabs
  have h : q < 0 ↔ q.num < 0 := by
    have := Rat.num_nonneg (q := q)
    rw [← Rat.not_le, ← this]; omega
  by_cases c : q < 0
  · rw [if_pos c, Rat.neg_num, Rat.neg_den]; exact ⟨by have := h.mp c; omega, rfl⟩
  · rw [if_neg c]; exact ⟨by have : ¬ q.num < 0 := fun z => c (h.mpr z); omega, rfl⟩
theorem t_Qabs {p : Pt} {f : Evn → RE PyData} {q : Rat} (h : TM p f (enc2 PyData.int PyData.int ((q.num.natAbs : Int), (q.den : Int)))) : TM p f (encQ (qabs q)) := t_Qab (qabs_num q).1 (by rw [(qabs_num q).2]) h
theorem f_q0 (q : Rat) : pIdx (encQ q) (.int 0) = some (.int q.num) := f_i0 _ _
theorem f_q1 (q : Rat) : pIdx (encQ q) (.int 1) = some (.int q.den) := f_i1 _ _ _
/-- what is asked of two fractions that are reckoned with -/
def Q2 (p q : Rat) : Prop := Sz 200 p ∧ Sz 200 q
def Qd (p q : Rat) : Prop := Sz 200 p ∧ Sz 200 q ∧ q ≠ 0
def Qf (t b : Int) : Prop := b ≠ 0 ∧ t.natAbs < 2 ^ 400 ∧ b.natAbs < 2 ^ 400
end PV
end
section
set_option Elab.async false
set_option linter.all false
set_option maxRecDepth 100000
set_option maxHeartbeats 4000000
/-! V1: fractions by their sizes; ropes, plainly. -/
/-! ### sizes of fractions: D a bottom, 2 ^ k more than its amount -/
namespace PV
def pw (k : Nat) : Rat := ((2 ^ k : Nat) : Rat)
theorem pw_add (a b : Nat) : pw (a + b) = pw a * pw b := by unfold pw; rw [Nat.pow_add, Rat.natCast_mul]
theorem pw_pos (k : Nat) : 0 < pw k := by
  unfold pw
  have : 0 < 2 ^ k := Nat.pow_pos (by decide)
  exact Rat.natCast_pos.mpr this
theorem pw_one (k : Nat) : 1 ≤ pw k := by
  unfold pw
  have : 1 ≤ 2 ^ k := Nat.pow_pos (by decide)
  exact Rat.natCast_le_natCast.mpr this
theorem pw_mono {a b : Nat} (h : a ≤ b) : pw a ≤ pw b := Rat.natCast_le_natCast.mpr (Nat.pow_le_pow_right (by decide) h)
structure G (D k : Nat) (q : Rat) : Prop where
  n : ∃ n : Int, q * (D : Rat) = (n : Rat)
  lo : -pw k < q
  hi : q < pw k
theorem G.mono {D k l : Nat} {q : Rat} (h : G D k q) (hl : k ≤ l) : G D l q := by
  have := pw_mono hl
  exact ⟨h.n, by have := h.lo; grind, by have := h.hi; grind⟩
theorem G.val {D k l : Nat} {q : Rat} (h : G D k q) (h1 : -pw l < q) (h2 : q < pw l) : G D l q := ⟨h.n, h1, h2⟩
theorem int_lt {i : Int} {k : Nat} (h : i.natAbs < 2 ^ k) : -pw k < (i : Rat) ∧ (i : Rat) < pw k := by
  have e : pw k = (((2 ^ k : Nat) : Int) : Rat) := rfl
  rw [e, ← Rat.intCast_neg]
  exact ⟨Rat.intCast_lt_intCast.mpr (by omega), Rat.intCast_lt_intCast.mpr (by omega)⟩
theorem G.int {k : Nat} {i : Int} (h : i.natAbs < 2 ^ k) : G 1 k (i : Rat) := ⟨⟨i, by simp⟩, (int_lt h).1, (int_lt h).2⟩
theorem G.up {D k : Nat} {q : Rat} (h : G D k q) (c : Nat) : G (D * c) k q := by
  obtain ⟨n, h1⟩ := h.n
  refine ⟨⟨n * c, ?_⟩, h.lo, h.hi⟩
  rw [Rat.natCast_mul, ← Rat.mul_assoc, h1, Rat.intCast_mul]; rfl
theorem G.cast {D E k : Nat} {q : Rat} (h : G D k q) (e : D = E) : G E k q := e ▸ h
theorem G.dvd {D E k : Nat} {q : Rat} (h : G D k q) (e : D ∣ E) : G E k q := by
  obtain ⟨c, rfl⟩ := e; exact h.up c
theorem G.add {D k : Nat} {p q : Rat} (hp : G D k p) (hq : G D k q) : G D (k + 1) (p + q) := by
  obtain ⟨n, h1⟩ := hp.n
  obtain ⟨m, h3⟩ := hq.n
  have e : pw (k + 1) = pw k + pw k := by rw [pw_add]; have : pw 1 = 2 := by rfl
                                          rw [this]; grind
  have := hp.lo; have := hp.hi; have := hq.lo; have := hq.hi
  exact ⟨⟨n + m, by rw [Rat.add_mul, h1, h3, Rat.intCast_add]⟩, by grind, by grind⟩
theorem G.neg {D k : Nat} {q : Rat} (hq : G D k q) : G D k (-q) := by
  obtain ⟨m, h3⟩ := hq.n
  have := hq.lo; have := hq.hi
  exact ⟨⟨-m, by rw [Rat.neg_mul, h3, Rat.intCast_neg]⟩, by grind, by grind⟩
theorem G.sub {D k : Nat} {p q : Rat} (hp : G D k p) (hq : G D k q) : G D (k + 1) (p - q) := by
  rw [Rat.sub_eq_add_neg]; exact hp.add hq.neg
theorem abs_mul {p q A B : Rat} (h1 : -A < p) (h2 : p < A) (h3 : -B < q) (h4 : q < B) : -(A * B) < p * q ∧ p * q < A * B := by
  have a1 := Rat.mul_pos (show 0 < A - p by grind) (show 0 < B + q by grind)
  have a2 := Rat.mul_pos (show 0 < A + p by grind) (show 0 < B - q by grind)
  have a3 := Rat.mul_pos (show 0 < A - p by grind) (show 0 < B - q by grind)
  have a4 := Rat.mul_pos (show 0 < A + p by grind) (show 0 < B + q by grind)
  constructor <;> grind
theorem G.mul {D E k l : Nat} {p q : Rat} (hp : G D k p) (hq : G E l q) : G (D * E) (k + l) (p * q) := by
  obtain ⟨n, h1⟩ := hp.n
  obtain ⟨m, h3⟩ := hq.n
  have := abs_mul hp.lo hp.hi hq.lo hq.hi
  refine ⟨⟨n * m, ?_⟩, by rw [pw_add]; exact this.1, by rw [pw_add]; exact this.2⟩
  rw [Rat.natCast_mul, Rat.intCast_mul, ← h1, ← h3]; grind
theorem nat_ne {D : Nat} (hD : 0 < D) : (D : Rat) ≠ 0 := by
  intro h
  have : ((D : Int) : Rat) = ((0 : Int) : Rat) := h
  have := Rat.intCast_inj.mp this
  omega
theorem int_ne {m : Int} (hm : m ≠ 0) : (m : Rat) ≠ 0 := fun e => hm (Rat.intCast_inj.mp (by rw [e]; rfl))
/-- the amount of a quotient -/
theorem div_lt {p q A c : Rat} (h1 : -A < p) (h2 : p < A) (hc : 0 < c) (hq : 1 ≤ q * c ∨ q * c ≤ -1) : -(A * c) < p / q ∧ p / q < A * c := by
  have q0 : q ≠ 0 := by
    rintro rfl
    rcases hq with h | h <;> grind
  have e : p / q * q = p := by grind
  generalize hr : p / q = r at e ⊢
  constructor
  · by_cases h : -(A * c) < r
    · exact h
    · exfalso
      rcases hq with h3 | h3
      · have qp : 0 < q := by
          by_cases z : 0 < q
          · exact z
          · have := Rat.mul_nonneg (show 0 ≤ -q by grind) (show 0 ≤ c by grind); grind
        have := Rat.mul_nonneg (show 0 ≤ -(A * c) - r by grind) (show 0 ≤ q by grind)
        have := Rat.mul_nonneg (show 0 ≤ A by grind) (show 0 ≤ q * c - 1 by grind)
        grind
      · have qp : 0 < -q := by
          by_cases z : 0 < -q
          · exact z
          · have := Rat.mul_nonneg (show 0 ≤ q by grind) (show 0 ≤ c by grind); grind
        have := Rat.mul_nonneg (show 0 ≤ -(A * c) - r by grind) (show 0 ≤ -q by grind)
        have := Rat.mul_nonneg (show 0 ≤ A by grind) (show 0 ≤ -(q * c) - 1 by grind)
        grind
  · by_cases h : r < A * c
    · exact h
    · exfalso
      rcases hq with h3 | h3
      · have qp : 0 < q := by
          by_cases z : 0 < q
          · exact z
          · have := Rat.mul_nonneg (show 0 ≤ -q by grind) (show 0 ≤ c by grind); grind
        have := Rat.mul_nonneg (show 0 ≤ r - A * c by grind) (show 0 ≤ q by grind)
        have := Rat.mul_nonneg (show 0 ≤ A by grind) (show 0 ≤ q * c - 1 by grind)
        grind
      · have qp : 0 < -q := by
          by_cases z : 0 < -q
          · exact z
          · have := Rat.mul_nonneg (show 0 ≤ q by grind) (show 0 ≤ c by grind); grind
        have := Rat.mul_nonneg (show 0 ≤ r - A * c by grind) (show 0 ≤ -q by grind)
        have := Rat.mul_nonneg (show 0 ≤ A by grind) (show 0 ≤ -(q * c) - 1 by grind)
        grind
theorem int_one {m : Int} (h : m ≠ 0) : 1 ≤ (m : Rat) ∨ (m : Rat) ≤ -1 := by
  by_cases c : 0 < m
  · left
    have : ((1 : Int) : Rat) ≤ (m : Rat) := Rat.intCast_le_intCast.mpr (by omega)
    exact this
  · right
    have : (m : Rat) ≤ ((-1 : Int) : Rat) := Rat.intCast_le_intCast.mpr (by omega)
    exact this
/-- over a whole number -/
theorem G.divI {D k : Nat} {p : Rat} (hp : G D k p) {m : Int} (hm : m ≠ 0) : G (D * m.natAbs) k (p / (m : Rat)) := by
  obtain ⟨n, h1⟩ := hp.n
  have h0 := int_ne hm
  have hv := div_lt hp.lo hp.hi (c := 1) (q := (m : Rat)) (by grind) (by have := int_one hm; grind)
  rw [Rat.mul_one] at hv
  rcases Int.natAbs_eq m with e | e
  · refine ⟨⟨n, ?_⟩, hv.1, hv.2⟩
    have e' : ((m.natAbs : Nat) : Rat) = (m : Rat) := by
      have : ((m.natAbs : Int) : Rat) = (m : Rat) := by rw [← e]
      exact this
    rw [Rat.natCast_mul, e', ← h1]; grind
  · refine ⟨⟨-n, ?_⟩, hv.1, hv.2⟩
    have e' : ((m.natAbs : Nat) : Rat) = -(m : Rat) := by
      have : ((m.natAbs : Int) : Rat) = -(m : Rat) := by rw [← Rat.intCast_neg]; congr 1; omega
      exact this
    rw [Rat.natCast_mul, e', Rat.intCast_neg, ← h1]; grind
theorem top_ne {E : Nat} {q : Rat} {m : Int} (hE : 0 < E) (hm : q * (E : Rat) = (m : Rat)) (h0 : q ≠ 0) : m ≠ 0 := by
  intro e
  rw [e] at hm
  rcases Rat.mul_eq_zero.mp (hm.trans rfl) with z | z
  · exact h0 z
  · exact nat_ne hE z
/-- over a fraction that is not 0: E its bottom, m its top -/
theorem G.div {D E k l : Nat} {p q : Rat} (hp : G D k p) (hE : 0 < E) (hEl : E ≤ 2 ^ l) {m : Int} (hm : q * (E : Rat) = (m : Rat)) (h0 : q ≠ 0) : G (D * m.natAbs) (k + l) (p / q) := by
  have hE' := nat_ne hE
  have m0 := top_ne hE hm h0
  have hv := div_lt hp.lo hp.hi (c := (E : Rat)) (q := q) (Rat.natCast_pos.mpr hE) (by rw [hm]; exact int_one m0)
  have e : p / q = p * (E : Rat) / (m : Rat) := by
    have h1 := int_ne m0
    rw [← hm] at h1 ⊢
    grind
  have hpE : G D (k + l) (p * (E : Rat)) := by
    obtain ⟨n, h1⟩ := hp.n
    have hEl' : (E : Rat) ≤ pw l := Rat.natCast_le_natCast.mpr hEl
    have E0 : 0 < (E : Rat) := Rat.natCast_pos.mpr hE
    have kp := pw_pos k
    have a1 := Rat.mul_nonneg (show 0 ≤ pw k by grind) (show 0 ≤ pw l - (E : Rat) by grind)
    have a2 := Rat.mul_pos (show 0 < pw k - p by have := hp.hi; grind) E0
    have a3 := Rat.mul_pos (show 0 < pw k + p by have := hp.lo; grind) E0
    refine ⟨⟨n * E, ?_⟩, by rw [pw_add]; grind, by rw [pw_add]; grind⟩
    rw [Rat.intCast_mul, ← h1]
    have : (((E : Int)) : Rat) = (E : Rat) := rfl
    rw [this]; grind
  rw [e]
  exact hpE.divI m0
theorem G.zero {D k : Nat} : G D k 0 := ⟨⟨0, by rw [Rat.zero_mul]; rfl⟩, by have := pw_pos k; grind, by have := pw_pos k; grind⟩
end PV
/-! ### ropes, plainly -/
namespace PV
def sm : List Rat → Rat
  | [] => 0
  | x :: r => x + sm r
theorem foldl_sm : ∀ (xs : List Rat) (s : Rat), xs.foldl (fun f o => f + o) s = s + sm xs
  | [], s => by show s = s + 0; grind
  | x :: r, s => by rw [List.foldl_cons, foldl_sm r]; show _ = s + (x + sm r); grind
theorem sm_app : ∀ (xs ys : List Rat), sm (xs ++ ys) = sm xs + sm ys
  | [], ys => by show sm ys = 0 + sm ys; grind
  | x :: r, ys => by show x + sm (r ++ ys) = (x + sm r) + sm ys; rw [sm_app r ys]; grind
def nearQ (at_ p : Rat) : Rat := if at_ < p then at_ else p
def farQ (at_ p : Rat) : Rat := if at_ < p then p else at_
theorem nf_le {x p : Rat} (h : x ≤ p) : nearQ x p = x ∧ farQ x p = p := by
  unfold nearQ farQ
  split
  · exact ⟨rfl, rfl⟩
  · constructor <;> grind
theorem nf_ge {x p : Rat} (h : p ≤ x) : nearQ x p = p ∧ farQ x p = x := by
  unfold nearQ farQ
  rw [if_neg (by grind), if_neg (by grind)]; exact ⟨rfl, rfl⟩
def lm (a b p : Rat) (l : Rat × Int) : Rat := ((l.2 : Rat) * ((nearQ l.1 p - a) * (b - farQ l.1 p))) / (b - a)
def ins (a b : Rat) (l : Rat × Int) : Bool := decide (a < l.1) && decide (l.1 < b)
def mom (a b w2 : Rat) (ls : List (Rat × Int)) (p : Rat) : Rat := sm ((ls.filter (ins a b)).map (lm a b p)) + w2 * ((p - a) * (b - p))
theorem lm_piece {a b L R p : Rat} {l : Rat × Int} (hab : a < b) (hLR : L < R) (no : ¬ (L < l.1 ∧ l.1 < R)) (h1 : L ≤ p) (h2 : p ≤ R) : lm a b p l * (R - L) = lm a b L l * (R - p) + lm a b R l * (p - L) := by
  unfold lm
  have hd : b - a ≠ 0 := by grind
  by_cases c : l.1 ≤ L
  · rw [(nf_le (x := l.1) (p := p) (by grind)).1, (nf_le (x := l.1) (p := p) (by grind)).2, (nf_le (x := l.1) (p := L) c).1, (nf_le (x := l.1) (p := L) c).2, (nf_le (x := l.1) (p := R) (by grind)).1, (nf_le (x := l.1) (p := R) (by grind)).2]
    grind
  · have c' : R ≤ l.1 := by grind
    rw [(nf_ge (x := l.1) (p := p) (by grind)).1, (nf_ge (x := l.1) (p := p) (by grind)).2, (nf_ge (x := l.1) (p := L) (by grind)).1, (nf_ge (x := l.1) (p := L) (by grind)).2, (nf_ge (x := l.1) (p := R) c').1, (nf_ge (x := l.1) (p := R) c').2]
    grind
theorem sm_piece {a b L R p : Rat} (hab : a < b) (hLR : L < R) (h1 : L ≤ p) (h2 : p ≤ R) : ∀ {ls : List (Rat × Int)}, (∀ l ∈ ls, ¬ (L < l.1 ∧ l.1 < R)) → sm (ls.map (lm a b p)) * (R - L) = sm (ls.map (lm a b L)) * (R - p) + sm (ls.map (lm a b R)) * (p - L)
  | [], _ => by show (0 : Rat) * _ = 0 * _ + 0 * _; grind
  | l :: ls, no => by
    have i := sm_piece hab hLR h1 h2 (ls := ls) fun x hx => no x (List.mem_cons_of_mem _ hx)
    have j := lm_piece hab hLR (no l (List.mem_cons_self ..)) h1 h2
    show (lm a b p l + sm (ls.map (lm a b p))) * (R - L) = (lm a b L l + sm (ls.map (lm a b L))) * (R - p) + (lm a b R l + sm (ls.map (lm a b R))) * (p - L)
    grind
/-- between two marks the moment is a parabola -/
theorem mom_piece {a b w2 L R p : Rat} {ls : List (Rat × Int)} (hab : a < b) (hLR : L < R) (no : ∀ l ∈ ls, ¬ (L < l.1 ∧ l.1 < R)) (h1 : L ≤ p) (h2 : p ≤ R) : mom a b w2 ls p * (R - L) = mom a b w2 ls L * (R - p) + mom a b w2 ls R * (p - L) + w2 * ((p - L) * (R - p) * (R - L)) := by
  have := sm_piece hab hLR h1 h2 (ls := ls.filter (ins a b)) fun l hl => no l (List.mem_filter.mp hl).1
  unfold mom
  grind
theorem mom_a {a b w2 : Rat} {ls : List (Rat × Int)} : mom a b w2 ls a = 0 := by
  have key : ∀ {xs : List (Rat × Int)}, (∀ l ∈ xs, a ≤ l.1) → sm (xs.map (lm a b a)) = 0 := by
    intro xs
    induction xs with
    | nil => intro _; rfl
    | cons l r ih =>
      intro h
      show lm a b a l + sm (r.map (lm a b a)) = 0
      rw [ih fun x hx => h x (List.mem_cons_of_mem _ hx)]
      unfold lm
      rw [(nf_ge (x := l.1) (p := a) (h l (List.mem_cons_self ..))).1]
      rw [Rat.div_def]
      grind
  unfold mom
  rw [key fun l hl => by
    have := (List.mem_filter.mp hl).2
    unfold ins at this
    rw [Bool.and_eq_true, decide_eq_true_eq, decide_eq_true_eq] at this
    grind]
  grind
/-- a parabola's top -/
theorem top_case {L R p w2 mL mR mp : Rat} (hLR : L < R) (hw : 0 < w2) (h1 : L ≤ p) (h2 : p ≤ R) (e : mp * (R - L) = mL * (R - p) + mR * (p - L) + w2 * ((p - L) * (R - p) * (R - L))) {t : Rat} (ht : t = (L + R) / 2 + (mR - mL) / (2 * w2 * (R - L))) :
    mp = mL + w2 * ((t - L) * (t - L)) - w2 * ((p - t) * (p - t)) ∧ mp = mR + w2 * ((t - R) * (t - R)) - w2 * ((p - t) * (p - t)) := by
  have hd : R - L ≠ 0 := by grind
  have hw' : w2 ≠ 0 := by grind
  have e2 : (mR - mL) = (t - (L + R) / 2) * (2 * w2 * (R - L)) := by
    rw [ht]; grind
  constructor <;> grind
theorem sq_nonneg (x : Rat) : 0 ≤ x * x := by
  by_cases h : 0 ≤ x
  · exact Rat.mul_nonneg h h
  · have := Rat.mul_nonneg (a := -x) (b := -x) (by grind) (by grind)
    grind
theorem sq_pos {x : Rat} (h : x ≠ 0) : 0 < x * x := by
  by_cases h0 : 0 < x
  · exact Rat.mul_pos h0 h0
  · have := Rat.mul_pos (a := -x) (b := -x) (by grind) (by grind)
    grind
theorem mul_le {x y c : Rat} (h : x ≤ y) (hc : 0 ≤ c) : c * x ≤ c * y := Rat.mul_le_mul_of_nonneg_left h hc
theorem mul_lt {x y c : Rat} (h : x < y) (hc : 0 < c) : c * x < c * y := by
  have := Rat.mul_pos hc (show 0 < y - x by grind)
  grind
/-- the least place at which one is greatest: among the ends of a piece and its turn -/
theorem best_piece {L R p w2 mL mR mp : Rat} (hLR : L < R) (hw : 0 < w2) (h1 : L ≤ p) (h2 : p ≤ R) (e : mp * (R - L) = mL * (R - p) + mR * (p - L) + w2 * ((p - L) * (R - p) * (R - L))) {t mt : Rat} (ht : t = (L + R) / 2 + (mR - mL) / (2 * w2 * (R - L))) (hmt : L < t → t < R → mt = mL + w2 * ((t - L) * (t - L))) :
    (mp < mL ∨ mp ≤ mL ∧ L ≤ p) ∨ (mp < mR ∨ mp ≤ mR ∧ R ≤ p) ∨ (L < t ∧ t < R ∧ (mp < mt ∨ mp ≤ mt ∧ t ≤ p)) := by
  obtain ⟨eL, eR⟩ := top_case hLR hw h1 h2 e ht
  by_cases c1 : t ≤ L
  · left; right
    refine ⟨?_, h1⟩
    have : (t - L) * (t - L) ≤ (p - t) * (p - t) := by
      have := Rat.mul_nonneg (a := p - L) (b := (p - t) + (L - t)) (by grind) (by grind)
      grind
    have := mul_le this (c := w2) (by grind)
    grind
  · by_cases c2 : R ≤ t
    · right; left
      by_cases c3 : p = R
      · right; subst c3; exact ⟨by have hz : (t - p) * (t - p) = (p - t) * (p - t) := by grind
                                   grind, by grind⟩
      · left
        have : (t - R) * (t - R) < (p - t) * (p - t) := by
          have := Rat.mul_pos (a := R - p) (b := (t - p) + (t - R)) (by grind) (by grind)
          grind
        have := mul_lt this hw
        grind
    · right; right
      refine ⟨by grind, by grind, ?_⟩
      have hm := hmt (by grind) (by grind)
      by_cases c3 : p = t
      · right; subst c3; exact ⟨by grind, by grind⟩
      · left
        have := mul_lt (sq_pos (x := p - t) (by grind)) hw
        grind
/-- .. without a weight -/
theorem best_flat {L R p mL mR mp : Rat} (hLR : L < R) (h1 : L ≤ p) (h2 : p ≤ R) (e : mp * (R - L) = mL * (R - p) + mR * (p - L)) : (mp < mL ∨ mp ≤ mL ∧ L ≤ p) ∨ (mp < mR ∨ mp ≤ mR ∧ R ≤ p) := by
  by_cases c : mR ≤ mL
  · left; right
    refine ⟨?_, h1⟩
    by_cases q : mp ≤ mL
    · exact q
    · exfalso
      have a1 := mul_lt (show mL < mp by grind) (show 0 < R - L by grind)
      have a2 := mul_le c (show 0 ≤ p - L by grind)
      grind
  · right
    by_cases c3 : p = R
    · right; subst c3
      refine ⟨?_, by grind⟩
      have hd : p - L ≠ 0 := by grind
      by_cases q : mp ≤ mR
      · exact q
      · exfalso
        have a1 := mul_lt (show mR < mp by grind) (show 0 < p - L by grind)
        grind
    · left
      by_cases q : mp < mR
      · exact q
      · exfalso
        have a1 := mul_le (show mR ≤ mp by grind) (show 0 ≤ R - L by grind)
        have a2 := mul_lt (show mL < mR by grind) (show 0 < R - p by grind)
        grind
end PV
namespace PV
open PySem
theorem G.sz {D k d n : Nat} {q : Rat} (h : G D k q) (hD : 0 < D) (hd : D < 2 ^ d) (hn : k + d ≤ n) : Sz n q := by
  obtain ⟨t, h1⟩ := h.n
  have hD' := nat_ne hD
  have e : q = Rat.divInt t (D : Int) := by
    rw [Rat.divInt_eq_div, ← h1]
    have : (((D : Int)) : Rat) = (D : Rat) := rfl
    rw [this]; grind
  have ht : t.natAbs < 2 ^ n := by
    have D0 : 0 < (D : Rat) := Rat.natCast_pos.mpr hD
    have Dd : (D : Rat) < pw d := Rat.natCast_lt_natCast.mpr hd
    have kp := pw_pos k
    have a1 := Rat.mul_pos (show 0 < pw k by grind) (show 0 < pw d - (D : Rat) by grind)
    have a2 := Rat.mul_pos (show 0 < pw k - q by have := h.hi; grind) D0
    have a3 := Rat.mul_pos (show 0 < pw k + q by have := h.lo; grind) D0
    have b1 : (t : Rat) < pw (k + d) := by rw [pw_add, ← h1]; grind
    have b2 : -pw (k + d) < (t : Rat) := by rw [pw_add, ← h1]; grind
    have e2 : pw (k + d) = (((2 ^ (k + d) : Nat) : Int) : Rat) := rfl
    rw [e2] at b1 b2
    rw [← Rat.intCast_neg] at b2
    have c1 := Rat.intCast_lt_intCast.mp b1
    have c2 := Rat.intCast_lt_intCast.mp b2
    have : (2 : Nat) ^ (k + d) ≤ 2 ^ n := Nat.pow_le_pow_right (by decide) hn
    omega
  rw [e]
  refine divInt_sz (by omega) ht ?_
  rw [Int.natAbs_natCast]
  exact Nat.lt_of_lt_of_le hd (Nat.pow_le_pow_right (by decide) (by omega))
theorem sm_G {D k : Nat} : ∀ {xs : List Rat}, (∀ x ∈ xs, G D k x) → (∃ n : Int, sm xs * (D : Rat) = (n : Rat)) ∧ -((xs.length : Rat) * pw k) ≤ sm xs ∧ sm xs ≤ (xs.length : Rat) * pw k ∧ (xs ≠ [] → -((xs.length : Rat) * pw k) < sm xs ∧ sm xs < (xs.length : Rat) * pw k)
  | [], _ => ⟨⟨0, by show (0 : Rat) * _ = _; rw [Rat.zero_mul]; rfl⟩, by show -((0 : Rat) * _) ≤ 0; grind, by show (0 : Rat) ≤ 0 * _; grind, fun h => absurd rfl h⟩
  | x :: r, h => by
    obtain ⟨⟨n, h1⟩, h2, h3, _⟩ := sm_G (xs := r) fun y hy => h y (List.mem_cons_of_mem _ hy)
    have hx := h x (List.mem_cons_self ..)
    obtain ⟨m, h4⟩ := hx.n
    have e : (((x :: r).length : Nat) : Rat) = (r.length : Rat) + 1 := by rw [List.length_cons, Rat.natCast_add]; rfl
    have l := hx.lo
    have u := hx.hi
    refine ⟨⟨m + n, ?_⟩, ?_, ?_, fun _ => ⟨?_, ?_⟩⟩
    · show (x + sm r) * _ = _
      rw [Rat.add_mul, h1, h4, Rat.intCast_add]
    all_goals rw [e]; show _ ; simp only [sm]; grind
theorem G.sum {D k j : Nat} {xs : List Rat} (h : ∀ x ∈ xs, G D k x) (hl : xs.length ≤ 2 ^ j) : G D (k + j) (sm xs) := by
  obtain ⟨h1, h2, h3, h4⟩ := sm_G h
  have hj : (xs.length : Rat) ≤ pw j := Rat.natCast_le_natCast.mpr hl
  have := Rat.mul_nonneg (show 0 ≤ pw j - (xs.length : Rat) by grind) (show 0 ≤ pw k by have := pw_pos k; grind)
  by_cases c : xs = []
  · subst c
    show G D (k + j) 0
    exact G.zero
  · obtain ⟨a1, a2⟩ := h4 c
    exact ⟨h1, by rw [pw_add]; grind, by rw [pw_add]; grind⟩
end PV
end
section
set_option Elab.async false
set_option linter.all false
set_option maxRecDepth 100000
set_option maxHeartbeats 4000000
namespace Law
open PySem PySem.Spec PyProof.Rows L2 PV
def top (i : Nat) : Stmt := PySem.Challenge.pw_ropesbear_k03_whole_ropes_are_in_balance.main.body.getD i (.Pass ⟨0, 0, 0, 0⟩)
structure Bi (mg : Str → Option Value) : Prop where
  l_abs : mg "abs" = none
  l_int : mg "int" = none
  l_len : mg "len" = none
  l_range : mg "range" = none
  l_sum : mg "sum" = none
abbrev s_law_numbers : Stmt := top 36
abbrev N_law_numbers : List Str := ["cell", "count", "limit", "found", "k", "mixed"]
theorem sc_law_numbers : FnScope N_law_numbers ["cell", "count", "limit"] (defScope s_law_numbers) := ⟨rfl, rfl, rfl, by decide +kernel, rfl, by decide +kernel, by decide +kernel⟩
noncomputable def l_law_numbers_0 : Evn → RS :=
  (sThen (sApp 3 (m2 pMod (mCall bInt (mCons (mGet 0) mNil)) (mGet 2)))
  (sSet 0 (m2 pDiv (mCall bInt (mCons (mGet 0) mNil)) (mGet 2))))
theorem u_law_numbers_0 (ρ : Evn) : l_law_numbers_0 ρ = (sThen (sApp 3 (m2 pMod (mCall bInt (mCons (mGet 0) mNil)) (mGet 2)))
  (sSet 0 (m2 pDiv (mCall bInt (mCons (mGet 0) mNil)) (mGet 2)))) ρ := nr rfl
noncomputable def l_law_numbers_1 : Evn → RS :=
  (sThen (sSet 5 (m2 pMod (mCall bInt (mCons (m2 pAdd (m2 pAdd (m2 pMul (mGet 0) (mC (.int 48271))) (m2 pMul (mGet 4) (mC (.int 69621)))) (mC (.int 7))) mNil)) (mC (.int 2147483647))))
  (sThen (sSet 5 (m2 pMod (mCall bInt (mCons (m2 pAdd (m2 pAdd (m2 pAdd (m2 pMul (mGet 5) (mGet 5)) (m2 pMul (mGet 5) (mC (.int 40692)))) (m2 pMul (mGet 4) (mC (.int 16807)))) (mC (.int 11))) mNil)) (mC (.int 2147483399))))
  (sApp 3 (m2 pMod (mCall bInt (mCons (m2 pDiv (mGet 5) (mC (.int 32))) mNil)) (mGet 2)))))
theorem u_law_numbers_1 (ρ : Evn) : l_law_numbers_1 ρ = (sThen (sSet 5 (m2 pMod (mCall bInt (mCons (m2 pAdd (m2 pAdd (m2 pMul (mGet 0) (mC (.int 48271))) (m2 pMul (mGet 4) (mC (.int 69621)))) (mC (.int 7))) mNil)) (mC (.int 2147483647))))
  (sThen (sSet 5 (m2 pMod (mCall bInt (mCons (m2 pAdd (m2 pAdd (m2 pAdd (m2 pMul (mGet 5) (mGet 5)) (m2 pMul (mGet 5) (mC (.int 40692)))) (m2 pMul (mGet 4) (mC (.int 16807)))) (mC (.int 11))) mNil)) (mC (.int 2147483399))))
  (sApp 3 (m2 pMod (mCall bInt (mCons (m2 pDiv (mGet 5) (mC (.int 32))) mNil)) (mGet 2))))) ρ := nr rfl
noncomputable def b_law_numbers : Evn → RS :=
  (sThen (sSetO 3 (mDsp mNil))
  (sThen (sIf (mB (m2 pGe (mGet 0) (m2 pPow (mC (.int 10)) (mC (.int 18)))))
    (sThen (sFor (mWk rng1 (mCons (mGet 1) mNil)) (gN 4) l_law_numbers_0)
    (fun ρ => (sRet (mGet 3)) (freeze 3 ρ)))
    sNx)
  (sThen (sFor (mWk rng1 (mCons (mGet 1) mNil)) (gN 4) l_law_numbers_1)
  (fun ρ => (sRet (mGet 3)) (freeze 3 ρ)))))
noncomputable def m_law_numbers : List PyData → RE PyData := fnM 3 6 b_law_numbers
theorem ok_law_numbers {P : Program} {w : World} {K : PySem.W.Frag} {mg : Str → Option Value} {base : Heap} {f : Addr} {fd : FuncData} (F : FnP K "_law_numbers" s_law_numbers f fd) (gl : mg "_law_numbers" = some (.ref f)) (bi : Bi mg) : Cal P w K mg base 1 "_law_numbers" ["cell", "count", "limit"] m_law_numbers :=
  Cal.of (k := 0) F gl sc_law_numbers (fun _ _ _ _ _ _ us hl => match us, hl with | [_, _, _], _ => rfl) fun cdv A outer s H E F0 hr => by
    have nd := sc_law_numbers.nd; have tk := takesD (P := P) (w := w) (K := K) (mg := mg) (base := base) (N := N_law_numbers) (qual := "_law_numbers") (scope := defScope s_law_numbers) (f := f) (cdv := cdv) (A := A) (outer := outer) (s := s) (H := H) (E := E); have po := passes_of (X := cxOf (L2.CX P w) P w K mg base N_law_numbers "_law_numbers" (defScope s_law_numbers) f cdv A outer s H E) rfl; exact
    (vs_cons (vs_setO 3 nd (vf_lst va_nil))
  (vs_cons (vs_if (vt_cmp opv_ge (ve_var 0) (ve_op opv_pow ve_int ve_int)) (vs_cons (vs_for po rfl (vi_range1 rfl bi.l_range (va_cons (ve_var 1) va_nil)) (vg_name 4 nd) (vs_cons (vs_append 3 (ve_op opv_mod (ve_callTy cb_int rfl bi.l_int rfl (va_cons (ve_var 0) va_nil)) (ve_var 2)))
  (vs_one (vs_set 0 nd (ve_op opv_div (ve_callTy cb_int rfl bi.l_int rfl (va_cons (ve_var 0) va_nil)) (ve_var 2))))))
    (vs_one (vs_freeze 3 (vs_ret (ve_var 3))))) vs_nil)
  (vs_cons (vs_for po rfl (vi_range1 rfl bi.l_range (va_cons (ve_var 1) va_nil)) (vg_name 4 nd) (vs_cons (vs_set 5 nd (ve_op opv_mod (ve_callTy cb_int rfl bi.l_int rfl (va_cons (ve_op opv_add (ve_op opv_add (ve_op opv_mul (ve_var 0) ve_int) (ve_op opv_mul (ve_var 4) ve_int)) ve_int) va_nil)) ve_int))
  (vs_cons (vs_set 5 nd (ve_op opv_mod (ve_callTy cb_int rfl bi.l_int rfl (va_cons (ve_op opv_add (ve_op opv_add (ve_op opv_add (ve_op opv_mul (ve_var 5) (ve_var 5)) (ve_op opv_mul (ve_var 5) ve_int)) (ve_op opv_mul (ve_var 4) ve_int)) ve_int) va_nil)) ve_int))
  (vs_one (vs_append 3 (ve_op opv_mod (ve_callTy cb_int rfl bi.l_int rfl (va_cons (ve_op opv_div (ve_var 5) ve_int) va_nil)) (ve_var 2)))))))
  (vs_one (vs_freeze 3 (vs_ret (ve_var 3)))))))
abbrev s_law_cell : Stmt := top 35
abbrev N_law_cell : List Str := ["script", "k"]
theorem sc_law_cell : FnScope N_law_cell ["script", "k"] (defScope s_law_cell) := ⟨rfl, rfl, rfl, by decide +kernel, rfl, by decide +kernel, by decide +kernel⟩
noncomputable def b_law_cell : Evn → RS :=
  (sThen (sIf (mB (m2 pLt (mGet 1) (mCall bLen (mCons (mGet 0) mNil))))
    (sRet (mCall bInt (mCons (m2 pIdx (mGet 0) (mGet 1)) mNil)))
    sNx)
  (sRet (mC (.int 0))))
noncomputable def m_law_cell : List PyData → RE PyData := fnM 2 2 b_law_cell
theorem ok_law_cell {P : Program} {w : World} {K : PySem.W.Frag} {mg : Str → Option Value} {base : Heap} {f : Addr} {fd : FuncData} (F : FnP K "_law_cell" s_law_cell f fd) (gl : mg "_law_cell" = some (.ref f)) (bi : Bi mg) : Cal P w K mg base 1 "_law_cell" ["script", "k"] m_law_cell :=
  Cal.of (k := 0) F gl sc_law_cell (fun _ _ _ _ _ _ us hl => match us, hl with | [_, _], _ => rfl) fun cdv A outer s H E F0 hr => by
    have nd := sc_law_cell.nd; have tk := takesD (P := P) (w := w) (K := K) (mg := mg) (base := base) (N := N_law_cell) (qual := "_law_cell") (scope := defScope s_law_cell) (f := f) (cdv := cdv) (A := A) (outer := outer) (s := s) (H := H) (E := E); have po := passes_of (X := cxOf (L2.CX P w) P w K mg base N_law_cell "_law_cell" (defScope s_law_cell) f cdv A outer s H E) rfl; exact
    (vs_cons (vs_if (vt_cmp opv_lt (ve_var 1) (ve_callB cb_len rfl bi.l_len rfl (va_cons (ve_var 0) va_nil))) (vs_one (vs_ret (ve_callTy cb_int rfl bi.l_int rfl (va_cons (ve_ix (ve_var 0) (ve_var 1)) va_nil)))) vs_nil)
  (vs_one (vs_ret ve_int)))
abbrev s_law_line : Stmt := top 44
abbrev N_law_line : List Str := ["script", "at", "most", "draws", "x", "towers", "k"]
theorem sc_law_line : FnScope N_law_line ["script", "at", "most"] (defScope s_law_line) := ⟨rfl, rfl, rfl, by decide +kernel, rfl, by decide +kernel, by decide +kernel⟩
noncomputable def l_law_line_0 : Evn → RS :=
  (sThen (sApp 5 (mSeq mTup (mCons (mGet 4) (mCons (m2 pSub (m2 pMod (m2 pIdx (mGet 3) (m2 pAdd (mC (.int 4)) (m2 pMul (mC (.int 2)) (mGet 6)))) (m2 pIdx (mSeq mLst (mCons (mC (.int 9)) (mCons (mC (.int 60)) (mCons (mC (.int 400)) mNil)))) (m2 pMod (m2 pIdx (mGet 3) (mC (.int 2))) (mC (.int 3))))) (m2 pMod (m2 pIdx (mGet 3) (mC (.int 2))) (mC (.int 40)))) mNil))))
  (sSet 4 (m2 pAdd (m2 pAdd (mGet 4) (mC (.int 1))) (m2 pMod (m2 pIdx (mGet 3) (m2 pAdd (mC (.int 5)) (m2 pMul (mC (.int 2)) (mGet 6)))) (m2 pIdx (mSeq mLst (mCons (mC (.int 4)) (mCons (mC (.int 30)) (mCons (mC (.int 300)) mNil)))) (m2 pMod (m2 pDiv (m2 pIdx (mGet 3) (mC (.int 2))) (mC (.int 3))) (mC (.int 3))))))))
theorem u_law_line_0 (ρ : Evn) : l_law_line_0 ρ = (sThen (sApp 5 (mSeq mTup (mCons (mGet 4) (mCons (m2 pSub (m2 pMod (m2 pIdx (mGet 3) (m2 pAdd (mC (.int 4)) (m2 pMul (mC (.int 2)) (mGet 6)))) (m2 pIdx (mSeq mLst (mCons (mC (.int 9)) (mCons (mC (.int 60)) (mCons (mC (.int 400)) mNil)))) (m2 pMod (m2 pIdx (mGet 3) (mC (.int 2))) (mC (.int 3))))) (m2 pMod (m2 pIdx (mGet 3) (mC (.int 2))) (mC (.int 40)))) mNil))))
  (sSet 4 (m2 pAdd (m2 pAdd (mGet 4) (mC (.int 1))) (m2 pMod (m2 pIdx (mGet 3) (m2 pAdd (mC (.int 5)) (m2 pMul (mC (.int 2)) (mGet 6)))) (m2 pIdx (mSeq mLst (mCons (mC (.int 4)) (mCons (mC (.int 30)) (mCons (mC (.int 300)) mNil)))) (m2 pMod (m2 pDiv (m2 pIdx (mGet 3) (mC (.int 2))) (mC (.int 3))) (mC (.int 3)))))))) ρ := nr rfl
noncomputable def b_law_line : Evn → RS :=
  (sThen (sSet 3 (mSeq m_law_numbers (mCons (mSeq m_law_cell (mCons (mGet 0) (mCons (mGet 1) mNil))) (mCons (mC (.int 90)) (mCons (mC (.int 5040)) mNil)))))
  (sThen (sSet 4 (m2 pSub (m2 pMod (m2 pIdx (mGet 3) (mC (.int 0))) (mC (.int 50))) (mC (.int 20))))
  (sThen (sSetO 5 (mDsp mNil))
  (sThen (sFor (mWk rng1 (mCons (m2 pAdd (mC (.int 2)) (m2 pMod (m2 pIdx (mGet 3) (mC (.int 1))) (m2 pSub (mGet 2) (mC (.int 1))))) mNil)) (gN 6) l_law_line_0)
  (fun ρ => (sRet (mSeq mTup (mCons (mGet 5) (mCons (m2 pIdx (mSeq mLst (mCons (mC (.int 0)) (mCons (mC (.int 0)) (mCons (mC (.int 1)) (mCons (mC (.int 2)) (mCons (mC (.int 7)) mNil)))))) (m2 pMod (m2 pIdx (mGet 3) (mC (.int 3))) (mC (.int 5)))) mNil)))) (freeze 5 ρ))))))
noncomputable def m_law_line : List PyData → RE PyData := fnM 3 7 b_law_line
theorem ok_law_line {P : Program} {w : World} {K : PySem.W.Frag} {mg : Str → Option Value} {base : Heap} {f : Addr} {fd : FuncData} (F : FnP K "_law_line" s_law_line f fd) (gl : mg "_law_line" = some (.ref f)) (bi : Bi mg) (C_law_cell : Cal P w K mg base 1 "_law_cell" ["script", "k"] m_law_cell) (C_law_numbers : Cal P w K mg base 1 "_law_numbers" ["cell", "count", "limit"] m_law_numbers) : Cal P w K mg base 2 "_law_line" ["script", "at", "most"] m_law_line :=
  Cal.of (k := 1) F gl sc_law_line (fun _ _ _ _ _ _ us hl => match us, hl with | [_, _, _], _ => rfl) fun cdv A outer s H E F0 hr => by
    have nd := sc_law_line.nd; have tk := takesD (P := P) (w := w) (K := K) (mg := mg) (base := base) (N := N_law_line) (qual := "_law_line") (scope := defScope s_law_line) (f := f) (cdv := cdv) (A := A) (outer := outer) (s := s) (H := H) (E := E); have po := passes_of (X := cxOf (L2.CX P w) P w K mg base N_law_line "_law_line" (defScope s_law_line) f cdv A outer s H E) rfl; exact
    (vs_cons (vs_set 3 nd (ve_cal C_law_numbers hr tk (va_cons (ve_cal C_law_cell hr tk (va_cons (ve_var 0) (va_cons (ve_var 1) va_nil))) (va_cons ve_int (va_cons ve_int va_nil)))))
  (vs_cons (vs_set 4 nd (ve_op opv_sub (ve_op opv_mod (ve_ix (ve_var 3) ve_int) ve_int) ve_int))
  (vs_cons (vs_setO 5 nd (vf_lst va_nil))
  (vs_cons (vs_for po rfl (vi_range1 rfl bi.l_range (va_cons (ve_op opv_add ve_int (ve_op opv_mod (ve_ix (ve_var 3) ve_int) (ve_op opv_sub (ve_var 2) ve_int))) va_nil)) (vg_name 6 nd) (vs_cons (vs_append 5 (ve_tup (va_cons (ve_var 4) (va_cons (ve_op opv_sub (ve_op opv_mod (ve_ix (ve_var 3) (ve_op opv_add ve_int (ve_op opv_mul ve_int (ve_var 6)))) (ve_ix (ve_lst (va_cons ve_int (va_cons ve_int (va_cons ve_int va_nil)))) (ve_op opv_mod (ve_ix (ve_var 3) ve_int) ve_int))) (ve_op opv_mod (ve_ix (ve_var 3) ve_int) ve_int)) va_nil))))
  (vs_one (vs_set 4 nd (ve_op opv_add (ve_op opv_add (ve_var 4) ve_int) (ve_op opv_mod (ve_ix (ve_var 3) (ve_op opv_add ve_int (ve_op opv_mul ve_int (ve_var 6)))) (ve_ix (ve_lst (va_cons ve_int (va_cons ve_int (va_cons ve_int va_nil)))) (ve_op opv_mod (ve_op opv_div (ve_ix (ve_var 3) ve_int) ve_int) ve_int))))))))
  (vs_one (vs_freeze 5 (vs_ret (ve_tup (va_cons (ve_var 5) (va_cons (ve_ix (ve_lst (va_cons ve_int (va_cons ve_int (va_cons ve_int (va_cons ve_int (va_cons ve_int va_nil)))))) (ve_op opv_mod (ve_ix (ve_var 3) ve_int) ve_int)) va_nil))))))))))
abbrev s_law_common : Stmt := top 37
abbrev N_law_common : List Str := ["one", "other", "turn"]
theorem sc_law_common : FnScope N_law_common ["one", "other"] (defScope s_law_common) := ⟨rfl, rfl, rfl, by decide +kernel, rfl, by decide +kernel, by decide +kernel⟩
noncomputable def l_law_common_0 : Evn → RS :=
  (sThen (sIf (mB (m2 pEq (mGet 1) (mC (.int 0))))
    (sRet (mGet 0))
    sNx)
  (sPar 0 1 (mCons (mGet 1) (mCons (m2 pMod (mCall bInt (mCons (mGet 0) mNil)) (mGet 1)) mNil))))
theorem u_law_common_0 (ρ : Evn) : l_law_common_0 ρ = (sThen (sIf (mB (m2 pEq (mGet 1) (mC (.int 0))))
    (sRet (mGet 0))
    sNx)
  (sPar 0 1 (mCons (mGet 1) (mCons (m2 pMod (mCall bInt (mCons (mGet 0) mNil)) (mGet 1)) mNil)))) ρ := nr rfl
noncomputable def b_law_common : Evn → RS :=
  (sThen (sSet 0 (mCall bAbs (mCons (mGet 0) mNil)))
  (sThen (sSet 1 (mCall bAbs (mCons (mGet 1) mNil)))
  (sThen (sFor (mWk rng1 (mCons (mC (.int 900)) mNil)) (gN 2) l_law_common_0)
  (sRet (mGet 0)))))
noncomputable def m_law_common : List PyData → RE PyData := fnM 2 3 b_law_common
theorem ok_law_common {P : Program} {w : World} {K : PySem.W.Frag} {mg : Str → Option Value} {base : Heap} {f : Addr} {fd : FuncData} (F : FnP K "_law_common" s_law_common f fd) (gl : mg "_law_common" = some (.ref f)) (bi : Bi mg) : Cal P w K mg base 1 "_law_common" ["one", "other"] m_law_common :=
  Cal.of (k := 0) F gl sc_law_common (fun _ _ _ _ _ _ us hl => match us, hl with | [_, _], _ => rfl) fun cdv A outer s H E F0 hr => by
    have nd := sc_law_common.nd; have tk := takesD (P := P) (w := w) (K := K) (mg := mg) (base := base) (N := N_law_common) (qual := "_law_common") (scope := defScope s_law_common) (f := f) (cdv := cdv) (A := A) (outer := outer) (s := s) (H := H) (E := E); have po := passes_of (X := cxOf (L2.CX P w) P w K mg base N_law_common "_law_common" (defScope s_law_common) f cdv A outer s H E) rfl; exact
    (vs_cons (vs_set 0 nd (ve_callB cb_abs rfl bi.l_abs rfl (va_cons (ve_var 0) va_nil)))
  (vs_cons (vs_set 1 nd (ve_callB cb_abs rfl bi.l_abs rfl (va_cons (ve_var 1) va_nil)))
  (vs_cons (vs_for po rfl (vi_range1 rfl bi.l_range (va_cons ve_int va_nil)) (vg_name 2 nd) (vs_cons (vs_if (vt_cmp (opv_eq hr) (ve_var 1) ve_int) (vs_one (vs_ret (ve_var 0))) vs_nil)
  (vs_one (vs_par 0 1 rfl nd (va_cons (ve_var 1) (va_cons (ve_op opv_mod (ve_callTy cb_int rfl bi.l_int rfl (va_cons (ve_var 0) va_nil)) (ve_var 1)) va_nil))))))
  (vs_one (vs_ret (ve_var 0))))))
abbrev s_law_frac : Stmt := top 38
abbrev N_law_frac : List Str := ["top", "bottom", "common"]
theorem sc_law_frac : FnScope N_law_frac ["top", "bottom"] (defScope s_law_frac) := ⟨rfl, rfl, rfl, by decide +kernel, rfl, by decide +kernel, by decide +kernel⟩
noncomputable def b_law_frac : Evn → RS :=
  (sThen (sIf (mB (m2 pLt (mGet 1) (mC (.int 0))))
    (sThen (sSet 0 (m2 pSub (mC (.int 0)) (mGet 0)))
    (sSet 1 (m2 pSub (mC (.int 0)) (mGet 1))))
    sNx)
  (sThen (sSet 2 (mSeq m_law_common (mCons (mGet 0) (mCons (mGet 1) mNil))))
  (sRet (mSeq mTup (mCons (m2 pDiv (mGet 0) (mGet 2)) (mCons (m2 pDiv (mGet 1) (mGet 2)) mNil))))))
noncomputable def m_law_frac : List PyData → RE PyData := fnM 2 3 b_law_frac
theorem ok_law_frac {P : Program} {w : World} {K : PySem.W.Frag} {mg : Str → Option Value} {base : Heap} {f : Addr} {fd : FuncData} (F : FnP K "_law_frac" s_law_frac f fd) (gl : mg "_law_frac" = some (.ref f)) (C_law_common : Cal P w K mg base 1 "_law_common" ["one", "other"] m_law_common) : Cal P w K mg base 2 "_law_frac" ["top", "bottom"] m_law_frac :=
  Cal.of (k := 1) F gl sc_law_frac (fun _ _ _ _ _ _ us hl => match us, hl with | [_, _], _ => rfl) fun cdv A outer s H E F0 hr => by
    have nd := sc_law_frac.nd; have tk := takesD (P := P) (w := w) (K := K) (mg := mg) (base := base) (N := N_law_frac) (qual := "_law_frac") (scope := defScope s_law_frac) (f := f) (cdv := cdv) (A := A) (outer := outer) (s := s) (H := H) (E := E); have po := passes_of (X := cxOf (L2.CX P w) P w K mg base N_law_frac "_law_frac" (defScope s_law_frac) f cdv A outer s H E) rfl; exact
    (vs_cons (vs_if (vt_cmp opv_lt (ve_var 1) ve_int) (vs_cons (vs_set 0 nd (ve_op opv_sub ve_int (ve_var 0)))
    (vs_one (vs_set 1 nd (ve_op opv_sub ve_int (ve_var 1))))) vs_nil)
  (vs_cons (vs_set 2 nd (ve_cal C_law_common hr tk (va_cons (ve_var 0) (va_cons (ve_var 1) va_nil))))
  (vs_one (vs_ret (ve_tup (va_cons (ve_op opv_div (ve_var 0) (ve_var 2)) (va_cons (ve_op opv_div (ve_var 1) (ve_var 2)) va_nil)))))))
abbrev s_law_place : Stmt := top 45
abbrev N_law_place : List Str := ["line", "one", "other", "towers", "low", "wide", "bottom"]
theorem sc_law_place : FnScope N_law_place ["line", "one", "other"] (defScope s_law_place) := ⟨rfl, rfl, rfl, by decide +kernel, rfl, by decide +kernel, by decide +kernel⟩
noncomputable def b_law_place : Evn → RS :=
  (sThen (sSet 3 (m2 pIdx (mGet 0) (mC (.int 0))))
  (sThen (sSet 4 (m2 pIdx (m2 pIdx (mGet 3) (mC (.int 0))) (mC (.int 0))))
  (sThen (sSet 5 (m2 pSub (m2 pIdx (m2 pIdx (mGet 3) (m2 pSub (mCall bLen (mCons (mGet 3) mNil)) (mC (.int 1)))) (mC (.int 0))) (mGet 4)))
  (sThen (sIf (mB (m2 pEq (m2 pMod (mGet 1) (mC (.int 7))) (mC (.int 0))))
    (sRet (mSeq mTup (mCons (m2 pIdx (m2 pIdx (mGet 3) (m2 pMod (m2 pDiv (mGet 1) (mC (.int 7))) (mCall bLen (mCons (mGet 3) mNil)))) (mC (.int 0))) (mCons (mC (.int 1)) mNil))))
    sNx)
  (sThen (sSet 6 (m2 pAdd (mC (.int 1)) (m2 pMod (m2 pDiv (mGet 1) (mC (.int 7))) (mC (.int 6)))))
  (sRet (mSeq m_law_frac (mCons (m2 pAdd (m2 pMul (mGet 4) (mGet 6)) (m2 pMod (mGet 2) (m2 pAdd (m2 pMul (mGet 5) (mGet 6)) (mC (.int 1))))) (mCons (mGet 6) mNil)))))))))
noncomputable def m_law_place : List PyData → RE PyData := fnM 3 7 b_law_place
theorem ok_law_place {P : Program} {w : World} {K : PySem.W.Frag} {mg : Str → Option Value} {base : Heap} {f : Addr} {fd : FuncData} (F : FnP K "_law_place" s_law_place f fd) (gl : mg "_law_place" = some (.ref f)) (bi : Bi mg) (C_law_frac : Cal P w K mg base 2 "_law_frac" ["top", "bottom"] m_law_frac) : Cal P w K mg base 3 "_law_place" ["line", "one", "other"] m_law_place :=
  Cal.of (k := 2) F gl sc_law_place (fun _ _ _ _ _ _ us hl => match us, hl with | [_, _, _], _ => rfl) fun cdv A outer s H E F0 hr => by
    have nd := sc_law_place.nd; have tk := takesD (P := P) (w := w) (K := K) (mg := mg) (base := base) (N := N_law_place) (qual := "_law_place") (scope := defScope s_law_place) (f := f) (cdv := cdv) (A := A) (outer := outer) (s := s) (H := H) (E := E); have po := passes_of (X := cxOf (L2.CX P w) P w K mg base N_law_place "_law_place" (defScope s_law_place) f cdv A outer s H E) rfl; exact
    (vs_cons (vs_set 3 nd (ve_ix (ve_var 0) ve_int))
  (vs_cons (vs_set 4 nd (ve_ix (ve_ix (ve_var 3) ve_int) ve_int))
  (vs_cons (vs_set 5 nd (ve_op opv_sub (ve_ix (ve_ix (ve_var 3) (ve_op opv_sub (ve_callB cb_len rfl bi.l_len rfl (va_cons (ve_var 3) va_nil)) ve_int)) ve_int) (ve_var 4)))
  (vs_cons (vs_if (vt_cmp (opv_eq hr) (ve_op opv_mod (ve_var 1) ve_int) ve_int) (vs_one (vs_ret (ve_tup (va_cons (ve_ix (ve_ix (ve_var 3) (ve_op opv_mod (ve_op opv_div (ve_var 1) ve_int) (ve_callB cb_len rfl bi.l_len rfl (va_cons (ve_var 3) va_nil)))) ve_int) (va_cons ve_int va_nil))))) vs_nil)
  (vs_cons (vs_set 6 nd (ve_op opv_add ve_int (ve_op opv_mod (ve_op opv_div (ve_var 1) ve_int) ve_int)))
  (vs_one (vs_ret (ve_cal C_law_frac hr tk (va_cons (ve_op opv_add (ve_op opv_mul (ve_var 4) (ve_var 6)) (ve_op opv_mod (ve_var 2) (ve_op opv_add (ve_op opv_mul (ve_var 5) (ve_var 6)) ve_int))) (va_cons (ve_var 6) va_nil))))))))))
abbrev s_law_less : Stmt := top 43
abbrev N_law_less : List Str := ["one", "other"]
theorem sc_law_less : FnScope N_law_less ["one", "other"] (defScope s_law_less) := ⟨rfl, rfl, rfl, by decide +kernel, rfl, by decide +kernel, by decide +kernel⟩
noncomputable def b_law_less : Evn → RS :=
  (sRet (m2 pLt (m2 pMul (m2 pIdx (mGet 0) (mC (.int 0))) (m2 pIdx (mGet 1) (mC (.int 1)))) (m2 pMul (m2 pIdx (mGet 1) (mC (.int 0))) (m2 pIdx (mGet 0) (mC (.int 1))))))
noncomputable def m_law_less : List PyData → RE PyData := fnM 2 2 b_law_less
theorem ok_law_less {P : Program} {w : World} {K : PySem.W.Frag} {mg : Str → Option Value} {base : Heap} {f : Addr} {fd : FuncData} (F : FnP K "_law_less" s_law_less f fd) (gl : mg "_law_less" = some (.ref f)) : Cal P w K mg base 1 "_law_less" ["one", "other"] m_law_less :=
  Cal.of (k := 0) F gl sc_law_less (fun _ _ _ _ _ _ us hl => match us, hl with | [_, _], _ => rfl) fun cdv A outer s H E F0 hr => by
    have nd := sc_law_less.nd; have tk := takesD (P := P) (w := w) (K := K) (mg := mg) (base := base) (N := N_law_less) (qual := "_law_less") (scope := defScope s_law_less) (f := f) (cdv := cdv) (A := A) (outer := outer) (s := s) (H := H) (E := E); have po := passes_of (X := cxOf (L2.CX P w) P w K mg base N_law_less "_law_less" (defScope s_law_less) f cdv A outer s H E) rfl; exact
    (vs_one (vs_ret (ve_cmp opv_lt (ve_op opv_mul (ve_ix (ve_var 0) ve_int) (ve_ix (ve_var 1) ve_int)) (ve_op opv_mul (ve_ix (ve_var 1) ve_int) (ve_ix (ve_var 0) ve_int)))))
abbrev s_law_loads : Stmt := top 46
abbrev N_law_loads : List Str := ["script", "at", "line", "most", "draws", "found", "k", "load", "spot", "other"]
theorem sc_law_loads : FnScope N_law_loads ["script", "at", "line", "most"] (defScope s_law_loads) := ⟨rfl, rfl, rfl, by decide +kernel, rfl, by decide +kernel, by decide +kernel⟩
noncomputable def l_law_loads_0 : Evn → RS :=
  (sThen (sSet 7 (mSeq mTup (mCons (mSeq m_law_place (mCons (mGet 2) (mCons (m2 pIdx (mGet 4) (m2 pAdd (mC (.int 2)) (m2 pMul (mC (.int 3)) (mGet 6)))) (mCons (m2 pIdx (mGet 4) (m2 pAdd (mC (.int 3)) (m2 pMul (mC (.int 3)) (mGet 6)))) mNil)))) (mCons (m2 pAdd (mC (.int 1)) (m2 pMod (m2 pIdx (mGet 4) (m2 pAdd (mC (.int 4)) (m2 pMul (mC (.int 3)) (mGet 6)))) (m2 pIdx (mSeq mLst (mCons (mC (.int 4)) (mCons (mC (.int 60)) (mCons (mC (.int 5000)) mNil)))) (m2 pMod (m2 pIdx (mGet 4) (mC (.int 1))) (mC (.int 3)))))) mNil))))
  (sThen (sSet 8 (mCall bLen (mCons (mL (mLc (mItems (mGet 5)) (gN 9) (mNotB (mT (mSeq m_law_less (mCons (m2 pIdx (mGet 7) (mC (.int 0))) (mCons (m2 pIdx (mGet 9) (mC (.int 0))) mNil))))) (mGet 9) [9])) mNil)))
  (sSet 5 (m2 pAdd (m2 pAdd (mCut (mGet 5) (mPart (mC (.int 0))) (mPart (mGet 8))) (mSeq mLst (mCons (mGet 7) mNil))) (mCut (mGet 5) (mPart (mGet 8)) mNo)))))
theorem u_law_loads_0 (ρ : Evn) : l_law_loads_0 ρ = (sThen (sSet 7 (mSeq mTup (mCons (mSeq m_law_place (mCons (mGet 2) (mCons (m2 pIdx (mGet 4) (m2 pAdd (mC (.int 2)) (m2 pMul (mC (.int 3)) (mGet 6)))) (mCons (m2 pIdx (mGet 4) (m2 pAdd (mC (.int 3)) (m2 pMul (mC (.int 3)) (mGet 6)))) mNil)))) (mCons (m2 pAdd (mC (.int 1)) (m2 pMod (m2 pIdx (mGet 4) (m2 pAdd (mC (.int 4)) (m2 pMul (mC (.int 3)) (mGet 6)))) (m2 pIdx (mSeq mLst (mCons (mC (.int 4)) (mCons (mC (.int 60)) (mCons (mC (.int 5000)) mNil)))) (m2 pMod (m2 pIdx (mGet 4) (mC (.int 1))) (mC (.int 3)))))) mNil))))
  (sThen (sSet 8 (mCall bLen (mCons (mL (mLc (mItems (mGet 5)) (gN 9) (mNotB (mT (mSeq m_law_less (mCons (m2 pIdx (mGet 7) (mC (.int 0))) (mCons (m2 pIdx (mGet 9) (mC (.int 0))) mNil))))) (mGet 9) [9])) mNil)))
  (sSet 5 (m2 pAdd (m2 pAdd (mCut (mGet 5) (mPart (mC (.int 0))) (mPart (mGet 8))) (mSeq mLst (mCons (mGet 7) mNil))) (mCut (mGet 5) (mPart (mGet 8)) mNo))))) ρ := nr rfl
noncomputable def b_law_loads : Evn → RS :=
  (sThen (sSet 4 (mSeq m_law_numbers (mCons (mSeq m_law_cell (mCons (mGet 0) (mCons (mGet 1) mNil))) (mCons (m2 pAdd (mC (.int 2)) (m2 pMul (mC (.int 3)) (mGet 3))) (mCons (mC (.int 5040)) mNil)))))
  (sThen (sSet 5 (mSeq mLst mNil))
  (sThen (sFor (mWk rng1 (mCons (m2 pMod (m2 pIdx (mGet 4) (mC (.int 0))) (m2 pAdd (mGet 3) (mC (.int 1)))) mNil)) (gN 6) l_law_loads_0)
  (sRet (mGet 5)))))
noncomputable def m_law_loads : List PyData → RE PyData := fnM 4 10 b_law_loads
theorem ok_law_loads {P : Program} {w : World} {K : PySem.W.Frag} {mg : Str → Option Value} {base : Heap} {f : Addr} {fd : FuncData} (F : FnP K "_law_loads" s_law_loads f fd) (gl : mg "_law_loads" = some (.ref f)) (bi : Bi mg) (C_law_cell : Cal P w K mg base 1 "_law_cell" ["script", "k"] m_law_cell) (C_law_numbers : Cal P w K mg base 1 "_law_numbers" ["cell", "count", "limit"] m_law_numbers) (C_law_place : Cal P w K mg base 3 "_law_place" ["line", "one", "other"] m_law_place) (C_law_less : Cal P w K mg base 1 "_law_less" ["one", "other"] m_law_less) : Cal P w K mg base 4 "_law_loads" ["script", "at", "line", "most"] m_law_loads :=
  Cal.of (k := 3) F gl sc_law_loads (fun _ _ _ _ _ _ us hl => match us, hl with | [_, _, _, _], _ => rfl) fun cdv A outer s H E F0 hr => by
    have nd := sc_law_loads.nd; have tk := takesD (P := P) (w := w) (K := K) (mg := mg) (base := base) (N := N_law_loads) (qual := "_law_loads") (scope := defScope s_law_loads) (f := f) (cdv := cdv) (A := A) (outer := outer) (s := s) (H := H) (E := E); have po := passes_of (X := cxOf (L2.CX P w) P w K mg base N_law_loads "_law_loads" (defScope s_law_loads) f cdv A outer s H E) rfl; exact
    (vs_cons (vs_set 4 nd (ve_cal C_law_numbers hr tk (va_cons (ve_cal C_law_cell hr tk (va_cons (ve_var 0) (va_cons (ve_var 1) va_nil))) (va_cons (ve_op opv_add ve_int (ve_op opv_mul ve_int (ve_var 3))) (va_cons ve_int va_nil)))))
  (vs_cons (vs_set 5 nd (ve_lst va_nil))
  (vs_cons (vs_for po rfl (vi_range1 rfl bi.l_range (va_cons (ve_op opv_mod (ve_ix (ve_var 4) ve_int) (ve_op opv_add (ve_var 3) ve_int)) va_nil)) (vg_name 6 nd) (vs_cons (vs_set 7 nd (ve_tup (va_cons (ve_cal C_law_place hr tk (va_cons (ve_var 2) (va_cons (ve_ix (ve_var 4) (ve_op opv_add ve_int (ve_op opv_mul ve_int (ve_var 6)))) (va_cons (ve_ix (ve_var 4) (ve_op opv_add ve_int (ve_op opv_mul ve_int (ve_var 6)))) va_nil)))) (va_cons (ve_op opv_add ve_int (ve_op opv_mod (ve_ix (ve_var 4) (ve_op opv_add ve_int (ve_op opv_mul ve_int (ve_var 6)))) (ve_ix (ve_lst (va_cons ve_int (va_cons ve_int (va_cons ve_int va_nil)))) (ve_op opv_mod (ve_ix (ve_var 4) ve_int) ve_int)))) va_nil))))
  (vs_cons (vs_set 8 nd (ve_callB cb_len rfl bi.l_len rfl (va_cons (VF.v (vf_lc rfl nd (vi_items (ve_var 5)) (blkOk_by (own := [("other", 9)]) (N := N_law_loads) (sc := defScope s_law_loads) (by decide +kernel)) (fun _ _ _ _ _ => (vg_name 9 nd)) (fun _ _ _ _ _ => (vts_one (vt_not (vt_truth (ve_cal C_law_less hr takesN (va_cons (ve_ix (ve_var 7) ve_int) (va_cons (ve_ix (ve_var 9) ve_int) va_nil))))))) (fun _ _ _ _ _ => (ve_var 9)))) va_nil)))
  (vs_one (vs_set 5 nd (ve_op opv_add (ve_op opv_add (ve_cut (ve_var 5) (vo_some ve_int) (vo_some (ve_var 8))) (ve_lst (va_cons (ve_var 7) va_nil))) (ve_cut (ve_var 5) (vo_some (ve_var 8)) vo_none)))))))
  (vs_one (vs_ret (ve_var 5))))))
abbrev s_law_times : Stmt := top 41
abbrev N_law_times : List Str := ["one", "other"]
theorem sc_law_times : FnScope N_law_times ["one", "other"] (defScope s_law_times) := ⟨rfl, rfl, rfl, by decide +kernel, rfl, by decide +kernel, by decide +kernel⟩
noncomputable def b_law_times : Evn → RS :=
  (sRet (mSeq m_law_frac (mCons (m2 pMul (m2 pIdx (mGet 0) (mC (.int 0))) (m2 pIdx (mGet 1) (mC (.int 0)))) (mCons (m2 pMul (m2 pIdx (mGet 0) (mC (.int 1))) (m2 pIdx (mGet 1) (mC (.int 1)))) mNil))))
noncomputable def m_law_times : List PyData → RE PyData := fnM 2 2 b_law_times
theorem ok_law_times {P : Program} {w : World} {K : PySem.W.Frag} {mg : Str → Option Value} {base : Heap} {f : Addr} {fd : FuncData} (F : FnP K "_law_times" s_law_times f fd) (gl : mg "_law_times" = some (.ref f)) (C_law_frac : Cal P w K mg base 2 "_law_frac" ["top", "bottom"] m_law_frac) : Cal P w K mg base 3 "_law_times" ["one", "other"] m_law_times :=
  Cal.of (k := 2) F gl sc_law_times (fun _ _ _ _ _ _ us hl => match us, hl with | [_, _], _ => rfl) fun cdv A outer s H E F0 hr => by
    have nd := sc_law_times.nd; have tk := takesD (P := P) (w := w) (K := K) (mg := mg) (base := base) (N := N_law_times) (qual := "_law_times") (scope := defScope s_law_times) (f := f) (cdv := cdv) (A := A) (outer := outer) (s := s) (H := H) (E := E); have po := passes_of (X := cxOf (L2.CX P w) P w K mg base N_law_times "_law_times" (defScope s_law_times) f cdv A outer s H E) rfl; exact
    (vs_one (vs_ret (ve_cal C_law_frac hr tk (va_cons (ve_op opv_mul (ve_ix (ve_var 0) ve_int) (ve_ix (ve_var 1) ve_int)) (va_cons (ve_op opv_mul (ve_ix (ve_var 0) ve_int) (ve_ix (ve_var 1) ve_int)) va_nil)))))
abbrev s_law_plus : Stmt := top 39
abbrev N_law_plus : List Str := ["one", "other"]
theorem sc_law_plus : FnScope N_law_plus ["one", "other"] (defScope s_law_plus) := ⟨rfl, rfl, rfl, by decide +kernel, rfl, by decide +kernel, by decide +kernel⟩
noncomputable def b_law_plus : Evn → RS :=
  (sRet (mSeq m_law_frac (mCons (m2 pAdd (m2 pMul (m2 pIdx (mGet 0) (mC (.int 0))) (m2 pIdx (mGet 1) (mC (.int 1)))) (m2 pMul (m2 pIdx (mGet 1) (mC (.int 0))) (m2 pIdx (mGet 0) (mC (.int 1))))) (mCons (m2 pMul (m2 pIdx (mGet 0) (mC (.int 1))) (m2 pIdx (mGet 1) (mC (.int 1)))) mNil))))
noncomputable def m_law_plus : List PyData → RE PyData := fnM 2 2 b_law_plus
theorem ok_law_plus {P : Program} {w : World} {K : PySem.W.Frag} {mg : Str → Option Value} {base : Heap} {f : Addr} {fd : FuncData} (F : FnP K "_law_plus" s_law_plus f fd) (gl : mg "_law_plus" = some (.ref f)) (C_law_frac : Cal P w K mg base 2 "_law_frac" ["top", "bottom"] m_law_frac) : Cal P w K mg base 3 "_law_plus" ["one", "other"] m_law_plus :=
  Cal.of (k := 2) F gl sc_law_plus (fun _ _ _ _ _ _ us hl => match us, hl with | [_, _], _ => rfl) fun cdv A outer s H E F0 hr => by
    have nd := sc_law_plus.nd; have tk := takesD (P := P) (w := w) (K := K) (mg := mg) (base := base) (N := N_law_plus) (qual := "_law_plus") (scope := defScope s_law_plus) (f := f) (cdv := cdv) (A := A) (outer := outer) (s := s) (H := H) (E := E); have po := passes_of (X := cxOf (L2.CX P w) P w K mg base N_law_plus "_law_plus" (defScope s_law_plus) f cdv A outer s H E) rfl; exact
    (vs_one (vs_ret (ve_cal C_law_frac hr tk (va_cons (ve_op opv_add (ve_op opv_mul (ve_ix (ve_var 0) ve_int) (ve_ix (ve_var 1) ve_int)) (ve_op opv_mul (ve_ix (ve_var 1) ve_int) (ve_ix (ve_var 0) ve_int))) (va_cons (ve_op opv_mul (ve_ix (ve_var 0) ve_int) (ve_ix (ve_var 1) ve_int)) va_nil)))))
abbrev s_law_middle : Stmt := top 48
abbrev N_law_middle : List Str := ["one", "other"]
theorem sc_law_middle : FnScope N_law_middle ["one", "other"] (defScope s_law_middle) := ⟨rfl, rfl, rfl, by decide +kernel, rfl, by decide +kernel, by decide +kernel⟩
noncomputable def b_law_middle : Evn → RS :=
  (sRet (mSeq m_law_times (mCons (mSeq mTup (mCons (mC (.int 1)) (mCons (mC (.int 2)) mNil))) (mCons (mSeq m_law_plus (mCons (mGet 0) (mCons (mGet 1) mNil))) mNil))))
noncomputable def m_law_middle : List PyData → RE PyData := fnM 2 2 b_law_middle
theorem ok_law_middle {P : Program} {w : World} {K : PySem.W.Frag} {mg : Str → Option Value} {base : Heap} {f : Addr} {fd : FuncData} (F : FnP K "_law_middle" s_law_middle f fd) (gl : mg "_law_middle" = some (.ref f)) (C_law_plus : Cal P w K mg base 3 "_law_plus" ["one", "other"] m_law_plus) (C_law_times : Cal P w K mg base 3 "_law_times" ["one", "other"] m_law_times) : Cal P w K mg base 4 "_law_middle" ["one", "other"] m_law_middle :=
  Cal.of (k := 3) F gl sc_law_middle (fun _ _ _ _ _ _ us hl => match us, hl with | [_, _], _ => rfl) fun cdv A outer s H E F0 hr => by
    have nd := sc_law_middle.nd; have tk := takesD (P := P) (w := w) (K := K) (mg := mg) (base := base) (N := N_law_middle) (qual := "_law_middle") (scope := defScope s_law_middle) (f := f) (cdv := cdv) (A := A) (outer := outer) (s := s) (H := H) (E := E); have po := passes_of (X := cxOf (L2.CX P w) P w K mg base N_law_middle "_law_middle" (defScope s_law_middle) f cdv A outer s H E) rfl; exact
    (vs_one (vs_ret (ve_cal C_law_times hr tk (va_cons (ve_tup (va_cons ve_int (va_cons ve_int va_nil))) (va_cons (ve_cal C_law_plus hr tk (va_cons (ve_var 0) (va_cons (ve_var 1) va_nil))) va_nil)))))
abbrev s_law_minus : Stmt := top 40
abbrev N_law_minus : List Str := ["one", "other"]
theorem sc_law_minus : FnScope N_law_minus ["one", "other"] (defScope s_law_minus) := ⟨rfl, rfl, rfl, by decide +kernel, rfl, by decide +kernel, by decide +kernel⟩
noncomputable def b_law_minus : Evn → RS :=
  (sRet (mSeq m_law_frac (mCons (m2 pSub (m2 pMul (m2 pIdx (mGet 0) (mC (.int 0))) (m2 pIdx (mGet 1) (mC (.int 1)))) (m2 pMul (m2 pIdx (mGet 1) (mC (.int 0))) (m2 pIdx (mGet 0) (mC (.int 1))))) (mCons (m2 pMul (m2 pIdx (mGet 0) (mC (.int 1))) (m2 pIdx (mGet 1) (mC (.int 1)))) mNil))))
noncomputable def m_law_minus : List PyData → RE PyData := fnM 2 2 b_law_minus
theorem ok_law_minus {P : Program} {w : World} {K : PySem.W.Frag} {mg : Str → Option Value} {base : Heap} {f : Addr} {fd : FuncData} (F : FnP K "_law_minus" s_law_minus f fd) (gl : mg "_law_minus" = some (.ref f)) (C_law_frac : Cal P w K mg base 2 "_law_frac" ["top", "bottom"] m_law_frac) : Cal P w K mg base 3 "_law_minus" ["one", "other"] m_law_minus :=
  Cal.of (k := 2) F gl sc_law_minus (fun _ _ _ _ _ _ us hl => match us, hl with | [_, _], _ => rfl) fun cdv A outer s H E F0 hr => by
    have nd := sc_law_minus.nd; have tk := takesD (P := P) (w := w) (K := K) (mg := mg) (base := base) (N := N_law_minus) (qual := "_law_minus") (scope := defScope s_law_minus) (f := f) (cdv := cdv) (A := A) (outer := outer) (s := s) (H := H) (E := E); have po := passes_of (X := cxOf (L2.CX P w) P w K mg base N_law_minus "_law_minus" (defScope s_law_minus) f cdv A outer s H E) rfl; exact
    (vs_one (vs_ret (ve_cal C_law_frac hr tk (va_cons (ve_op opv_sub (ve_op opv_mul (ve_ix (ve_var 0) ve_int) (ve_ix (ve_var 1) ve_int)) (ve_op opv_mul (ve_ix (ve_var 1) ve_int) (ve_ix (ve_var 0) ve_int))) (va_cons (ve_op opv_mul (ve_ix (ve_var 0) ve_int) (ve_ix (ve_var 1) ve_int)) va_nil)))))
abbrev s_law_over : Stmt := top 42
abbrev N_law_over : List Str := ["one", "other"]
theorem sc_law_over : FnScope N_law_over ["one", "other"] (defScope s_law_over) := ⟨rfl, rfl, rfl, by decide +kernel, rfl, by decide +kernel, by decide +kernel⟩
noncomputable def b_law_over : Evn → RS :=
  (sRet (mSeq m_law_frac (mCons (m2 pMul (m2 pIdx (mGet 0) (mC (.int 0))) (m2 pIdx (mGet 1) (mC (.int 1)))) (mCons (m2 pMul (m2 pIdx (mGet 0) (mC (.int 1))) (m2 pIdx (mGet 1) (mC (.int 0)))) mNil))))
noncomputable def m_law_over : List PyData → RE PyData := fnM 2 2 b_law_over
theorem ok_law_over {P : Program} {w : World} {K : PySem.W.Frag} {mg : Str → Option Value} {base : Heap} {f : Addr} {fd : FuncData} (F : FnP K "_law_over" s_law_over f fd) (gl : mg "_law_over" = some (.ref f)) (C_law_frac : Cal P w K mg base 2 "_law_frac" ["top", "bottom"] m_law_frac) : Cal P w K mg base 3 "_law_over" ["one", "other"] m_law_over :=
  Cal.of (k := 2) F gl sc_law_over (fun _ _ _ _ _ _ us hl => match us, hl with | [_, _], _ => rfl) fun cdv A outer s H E F0 hr => by
    have nd := sc_law_over.nd; have tk := takesD (P := P) (w := w) (K := K) (mg := mg) (base := base) (N := N_law_over) (qual := "_law_over") (scope := defScope s_law_over) (f := f) (cdv := cdv) (A := A) (outer := outer) (s := s) (H := H) (E := E); have po := passes_of (X := cxOf (L2.CX P w) P w K mg base N_law_over "_law_over" (defScope s_law_over) f cdv A outer s H E) rfl; exact
    (vs_one (vs_ret (ve_cal C_law_frac hr tk (va_cons (ve_op opv_mul (ve_ix (ve_var 0) ve_int) (ve_ix (ve_var 1) ve_int)) (va_cons (ve_op opv_mul (ve_ix (ve_var 0) ve_int) (ve_ix (ve_var 1) ve_int)) va_nil)))))
abbrev s_fraction : Stmt := top 6
abbrev N_fraction : List Str := ["top", "bottom", "common"]
theorem sc_fraction : FnScope N_fraction ["top", "bottom"] (defScope s_fraction) := ⟨rfl, rfl, rfl, by decide +kernel, rfl, by decide +kernel, by decide +kernel⟩
noncomputable def b_fraction : Evn → RS :=
  (sThen (sIf (mB (m2 pLt (mGet 1) (mC (.int 0))))
    (sPar 0 1 (mCons (m1 pNeg (mGet 0)) (mCons (m1 pNeg (mGet 1)) mNil)))
    sNx)
  (sThen (sSet 2 (mCall bGcd (mCons (mGet 0) (mCons (mGet 1) mNil))))
  (sRet (mSeq mTup (mCons (m2 pDiv (mGet 0) (mGet 2)) (mCons (m2 pDiv (mGet 1) (mGet 2)) mNil))))))
noncomputable def m_fraction : List PyData → RE PyData := fnM 2 3 b_fraction
theorem ok_fraction {P : Program} {w : World} {K : PySem.W.Frag} {mg : Str → Option Value} {base : Heap} {f : Addr} {fd : FuncData} (F : FnP K "fraction" s_fraction f fd) (gl : mg "fraction" = some (.ref f)) (gb_gcd : mg "gcd" = some (.builtin "math.gcd")) : Cal P w K mg base 1 "fraction" ["top", "bottom"] m_fraction :=
  Cal.of (k := 0) F gl sc_fraction (fun _ _ _ _ _ _ us hl => match us, hl with | [_, _], _ => rfl) fun cdv A outer s H E F0 hr => by
    have nd := sc_fraction.nd; have tk := takesD (P := P) (w := w) (K := K) (mg := mg) (base := base) (N := N_fraction) (qual := "fraction") (scope := defScope s_fraction) (f := f) (cdv := cdv) (A := A) (outer := outer) (s := s) (H := H) (E := E); have po := passes_of (X := cxOf (L2.CX P w) P w K mg base N_fraction "fraction" (defScope s_fraction) f cdv A outer s H E) rfl; exact
    (vs_cons (vs_if (vt_cmp opv_lt (ve_var 1) ve_int) (vs_one (vs_par 0 1 rfl nd (va_cons (ve_neg (ve_var 0)) (va_cons (ve_neg (ve_var 1)) va_nil)))) vs_nil)
  (vs_cons (vs_set 2 nd (ve_callBfun cb_gcd rfl gb_gcd (va_cons (ve_var 0) (va_cons (ve_var 1) va_nil))))
  (vs_one (vs_ret (ve_tup (va_cons (ve_op opv_div (ve_var 0) (ve_var 2)) (va_cons (ve_op opv_div (ve_var 1) (ve_var 2)) va_nil)))))))
abbrev s_minus : Stmt := top 9
abbrev N_minus : List Str := ["one", "other"]
theorem sc_minus : FnScope N_minus ["one", "other"] (defScope s_minus) := ⟨rfl, rfl, rfl, by decide +kernel, rfl, by decide +kernel, by decide +kernel⟩
noncomputable def b_minus : Evn → RS :=
  (sRet (mSeq m_fraction (mCons (m2 pSub (m2 pMul (m2 pIdx (mGet 0) (mC (.int 0))) (m2 pIdx (mGet 1) (mC (.int 1)))) (m2 pMul (m2 pIdx (mGet 1) (mC (.int 0))) (m2 pIdx (mGet 0) (mC (.int 1))))) (mCons (m2 pMul (m2 pIdx (mGet 0) (mC (.int 1))) (m2 pIdx (mGet 1) (mC (.int 1)))) mNil))))
noncomputable def m_minus : List PyData → RE PyData := fnM 2 2 b_minus
theorem ok_minus {P : Program} {w : World} {K : PySem.W.Frag} {mg : Str → Option Value} {base : Heap} {f : Addr} {fd : FuncData} (F : FnP K "minus" s_minus f fd) (gl : mg "minus" = some (.ref f)) (C_fraction : Cal P w K mg base 1 "fraction" ["top", "bottom"] m_fraction) : Cal P w K mg base 2 "minus" ["one", "other"] m_minus :=
  Cal.of (k := 1) F gl sc_minus (fun _ _ _ _ _ _ us hl => match us, hl with | [_, _], _ => rfl) fun cdv A outer s H E F0 hr => by
    have nd := sc_minus.nd; have tk := takesD (P := P) (w := w) (K := K) (mg := mg) (base := base) (N := N_minus) (qual := "minus") (scope := defScope s_minus) (f := f) (cdv := cdv) (A := A) (outer := outer) (s := s) (H := H) (E := E); have po := passes_of (X := cxOf (L2.CX P w) P w K mg base N_minus "minus" (defScope s_minus) f cdv A outer s H E) rfl; exact
    (vs_one (vs_ret (ve_cal C_fraction hr tk (va_cons (ve_op opv_sub (ve_op opv_mul (ve_ix (ve_var 0) ve_int) (ve_ix (ve_var 1) ve_int)) (ve_op opv_mul (ve_ix (ve_var 1) ve_int) (ve_ix (ve_var 0) ve_int))) (va_cons (ve_op opv_mul (ve_ix (ve_var 0) ve_int) (ve_ix (ve_var 1) ve_int)) va_nil)))))
abbrev s_span_count : Stmt := top 17
abbrev N_span_count : List Str := ["line"]
theorem sc_span_count : FnScope N_span_count ["line"] (defScope s_span_count) := ⟨rfl, rfl, rfl, by decide +kernel, rfl, by decide +kernel, by decide +kernel⟩
noncomputable def b_span_count : Evn → RS :=
  (sRet (m2 pSub (mCall bLen (mCons (m2 pIdx (mGet 0) (mC (.int 0))) mNil)) (mC (.int 1))))
noncomputable def m_span_count : List PyData → RE PyData := fnM 1 1 b_span_count
theorem ok_span_count {P : Program} {w : World} {K : PySem.W.Frag} {mg : Str → Option Value} {base : Heap} {f : Addr} {fd : FuncData} (F : FnP K "span_count" s_span_count f fd) (gl : mg "span_count" = some (.ref f)) (bi : Bi mg) : Cal P w K mg base 1 "span_count" ["line"] m_span_count :=
  Cal.of (k := 0) F gl sc_span_count (fun _ _ _ _ _ _ us hl => match us, hl with | [_], _ => rfl) fun cdv A outer s H E F0 hr => by
    have nd := sc_span_count.nd; have tk := takesD (P := P) (w := w) (K := K) (mg := mg) (base := base) (N := N_span_count) (qual := "span_count") (scope := defScope s_span_count) (f := f) (cdv := cdv) (A := A) (outer := outer) (s := s) (H := H) (E := E); have po := passes_of (X := cxOf (L2.CX P w) P w K mg base N_span_count "span_count" (defScope s_span_count) f cdv A outer s H E) rfl; exact
    (vs_one (vs_ret (ve_op opv_sub (ve_callB cb_len rfl bi.l_len rfl (va_cons (ve_ix (ve_var 0) ve_int) va_nil)) ve_int)))
abbrev s_is_less : Stmt := top 12
abbrev N_is_less : List Str := ["one", "other"]
theorem sc_is_less : FnScope N_is_less ["one", "other"] (defScope s_is_less) := ⟨rfl, rfl, rfl, by decide +kernel, rfl, by decide +kernel, by decide +kernel⟩
noncomputable def b_is_less : Evn → RS :=
  (sRet (m2 pLt (m2 pMul (m2 pIdx (mGet 0) (mC (.int 0))) (m2 pIdx (mGet 1) (mC (.int 1)))) (m2 pMul (m2 pIdx (mGet 1) (mC (.int 0))) (m2 pIdx (mGet 0) (mC (.int 1))))))
noncomputable def m_is_less : List PyData → RE PyData := fnM 2 2 b_is_less
theorem ok_is_less {P : Program} {w : World} {K : PySem.W.Frag} {mg : Str → Option Value} {base : Heap} {f : Addr} {fd : FuncData} (F : FnP K "is_less" s_is_less f fd) (gl : mg "is_less" = some (.ref f)) : Cal P w K mg base 1 "is_less" ["one", "other"] m_is_less :=
  Cal.of (k := 0) F gl sc_is_less (fun _ _ _ _ _ _ us hl => match us, hl with | [_, _], _ => rfl) fun cdv A outer s H E F0 hr => by
    have nd := sc_is_less.nd; have tk := takesD (P := P) (w := w) (K := K) (mg := mg) (base := base) (N := N_is_less) (qual := "is_less") (scope := defScope s_is_less) (f := f) (cdv := cdv) (A := A) (outer := outer) (s := s) (H := H) (E := E); have po := passes_of (X := cxOf (L2.CX P w) P w K mg base N_is_less "is_less" (defScope s_is_less) f cdv A outer s H E) rfl; exact
    (vs_one (vs_ret (ve_cmp opv_lt (ve_op opv_mul (ve_ix (ve_var 0) ve_int) (ve_ix (ve_var 1) ve_int)) (ve_op opv_mul (ve_ix (ve_var 1) ve_int) (ve_ix (ve_var 0) ve_int)))))
abbrev s_whole : Stmt := top 7
abbrev N_whole : List Str := ["number"]
theorem sc_whole : FnScope N_whole ["number"] (defScope s_whole) := ⟨rfl, rfl, rfl, by decide +kernel, rfl, by decide +kernel, by decide +kernel⟩
noncomputable def b_whole : Evn → RS :=
  (sRet (mSeq mTup (mCons (mGet 0) (mCons (mC (.int 1)) mNil))))
noncomputable def m_whole : List PyData → RE PyData := fnM 1 1 b_whole
theorem ok_whole {P : Program} {w : World} {K : PySem.W.Frag} {mg : Str → Option Value} {base : Heap} {f : Addr} {fd : FuncData} (F : FnP K "whole" s_whole f fd) (gl : mg "whole" = some (.ref f)) : Cal P w K mg base 1 "whole" ["number"] m_whole :=
  Cal.of (k := 0) F gl sc_whole (fun _ _ _ _ _ _ us hl => match us, hl with | [_], _ => rfl) fun cdv A outer s H E F0 hr => by
    have nd := sc_whole.nd; have tk := takesD (P := P) (w := w) (K := K) (mg := mg) (base := base) (N := N_whole) (qual := "whole") (scope := defScope s_whole) (f := f) (cdv := cdv) (A := A) (outer := outer) (s := s) (H := H) (E := E); have po := passes_of (X := cxOf (L2.CX P w) P w K mg base N_whole "whole" (defScope s_whole) f cdv A outer s H E) rfl; exact
    (vs_one (vs_ret (ve_tup (va_cons (ve_var 0) (va_cons ve_int va_nil)))))
abbrev s_span_ends : Stmt := top 18
abbrev N_span_ends : List Str := ["line", "span"]
theorem sc_span_ends : FnScope N_span_ends ["line", "span"] (defScope s_span_ends) := ⟨rfl, rfl, rfl, by decide +kernel, rfl, by decide +kernel, by decide +kernel⟩
noncomputable def b_span_ends : Evn → RS :=
  (sRet (mSeq mTup (mCons (mSeq m_whole (mCons (m2 pIdx (m2 pIdx (m2 pIdx (mGet 0) (mC (.int 0))) (mGet 1)) (mC (.int 0))) mNil)) (mCons (mSeq m_whole (mCons (m2 pIdx (m2 pIdx (m2 pIdx (mGet 0) (mC (.int 0))) (m2 pAdd (mGet 1) (mC (.int 1)))) (mC (.int 0))) mNil)) mNil))))
noncomputable def m_span_ends : List PyData → RE PyData := fnM 2 2 b_span_ends
theorem ok_span_ends {P : Program} {w : World} {K : PySem.W.Frag} {mg : Str → Option Value} {base : Heap} {f : Addr} {fd : FuncData} (F : FnP K "span_ends" s_span_ends f fd) (gl : mg "span_ends" = some (.ref f)) (C_whole : Cal P w K mg base 1 "whole" ["number"] m_whole) : Cal P w K mg base 2 "span_ends" ["line", "span"] m_span_ends :=
  Cal.of (k := 1) F gl sc_span_ends (fun _ _ _ _ _ _ us hl => match us, hl with | [_, _], _ => rfl) fun cdv A outer s H E F0 hr => by
    have nd := sc_span_ends.nd; have tk := takesD (P := P) (w := w) (K := K) (mg := mg) (base := base) (N := N_span_ends) (qual := "span_ends") (scope := defScope s_span_ends) (f := f) (cdv := cdv) (A := A) (outer := outer) (s := s) (H := H) (E := E); have po := passes_of (X := cxOf (L2.CX P w) P w K mg base N_span_ends "span_ends" (defScope s_span_ends) f cdv A outer s H E) rfl; exact
    (vs_one (vs_ret (ve_tup (va_cons (ve_cal C_whole hr tk (va_cons (ve_ix (ve_ix (ve_ix (ve_var 0) ve_int) (ve_var 1)) ve_int) va_nil)) (va_cons (ve_cal C_whole hr tk (va_cons (ve_ix (ve_ix (ve_ix (ve_var 0) ve_int) (ve_op opv_add (ve_var 1) ve_int)) ve_int) va_nil)) va_nil)))))
abbrev s_span_of : Stmt := top 19
abbrev N_span_of : List Str := ["line", "place", "found", "span"]
theorem sc_span_of : FnScope N_span_of ["line", "place"] (defScope s_span_of) := ⟨rfl, rfl, rfl, by decide +kernel, rfl, by decide +kernel, by decide +kernel⟩
noncomputable def l_span_of_0 : Evn → RS :=
  (sIf (mNotB (mT (mSeq m_is_less (mCons (mGet 1) (mCons (m2 pIdx (mSeq m_span_ends (mCons (mGet 0) (mCons (mGet 3) mNil))) (mC (.int 0))) mNil)))))
    (sSet 2 (mGet 3))
    sNx)
theorem u_span_of_0 (ρ : Evn) : l_span_of_0 ρ = (sIf (mNotB (mT (mSeq m_is_less (mCons (mGet 1) (mCons (m2 pIdx (mSeq m_span_ends (mCons (mGet 0) (mCons (mGet 3) mNil))) (mC (.int 0))) mNil)))))
    (sSet 2 (mGet 3))
    sNx) ρ := nr rfl
noncomputable def b_span_of : Evn → RS :=
  (sThen (sSet 2 (mC (.int 0)))
  (sThen (sFor (mWk rng1 (mCons (mSeq m_span_count (mCons (mGet 0) mNil)) mNil)) (gN 3) l_span_of_0)
  (sRet (mGet 2))))
noncomputable def m_span_of : List PyData → RE PyData := fnM 2 4 b_span_of
theorem ok_span_of {P : Program} {w : World} {K : PySem.W.Frag} {mg : Str → Option Value} {base : Heap} {f : Addr} {fd : FuncData} (F : FnP K "span_of" s_span_of f fd) (gl : mg "span_of" = some (.ref f)) (bi : Bi mg) (C_span_count : Cal P w K mg base 1 "span_count" ["line"] m_span_count) (C_span_ends : Cal P w K mg base 2 "span_ends" ["line", "span"] m_span_ends) (C_is_less : Cal P w K mg base 1 "is_less" ["one", "other"] m_is_less) : Cal P w K mg base 3 "span_of" ["line", "place"] m_span_of :=
  Cal.of (k := 2) F gl sc_span_of (fun _ _ _ _ _ _ us hl => match us, hl with | [_, _], _ => rfl) fun cdv A outer s H E F0 hr => by
    have nd := sc_span_of.nd; have tk := takesD (P := P) (w := w) (K := K) (mg := mg) (base := base) (N := N_span_of) (qual := "span_of") (scope := defScope s_span_of) (f := f) (cdv := cdv) (A := A) (outer := outer) (s := s) (H := H) (E := E); have po := passes_of (X := cxOf (L2.CX P w) P w K mg base N_span_of "span_of" (defScope s_span_of) f cdv A outer s H E) rfl; exact
    (vs_cons (vs_set 2 nd ve_int)
  (vs_cons (vs_for po rfl (vi_range1 rfl bi.l_range (va_cons (ve_cal C_span_count hr tk (va_cons (ve_var 0) va_nil)) va_nil)) (vg_name 3 nd) (vs_one (vs_if (vt_not (vt_truth (ve_cal C_is_less hr tk (va_cons (ve_var 1) (va_cons (ve_ix (ve_cal C_span_ends hr tk (va_cons (ve_var 0) (va_cons (ve_var 3) va_nil))) ve_int) va_nil))))) (vs_one (vs_set 2 nd (ve_var 3))) vs_nil)))
  (vs_one (vs_ret (ve_var 2)))))
abbrev s_plus : Stmt := top 8
abbrev N_plus : List Str := ["one", "other"]
theorem sc_plus : FnScope N_plus ["one", "other"] (defScope s_plus) := ⟨rfl, rfl, rfl, by decide +kernel, rfl, by decide +kernel, by decide +kernel⟩
noncomputable def b_plus : Evn → RS :=
  (sRet (mSeq m_fraction (mCons (m2 pAdd (m2 pMul (m2 pIdx (mGet 0) (mC (.int 0))) (m2 pIdx (mGet 1) (mC (.int 1)))) (m2 pMul (m2 pIdx (mGet 1) (mC (.int 0))) (m2 pIdx (mGet 0) (mC (.int 1))))) (mCons (m2 pMul (m2 pIdx (mGet 0) (mC (.int 1))) (m2 pIdx (mGet 1) (mC (.int 1)))) mNil))))
noncomputable def m_plus : List PyData → RE PyData := fnM 2 2 b_plus
theorem ok_plus {P : Program} {w : World} {K : PySem.W.Frag} {mg : Str → Option Value} {base : Heap} {f : Addr} {fd : FuncData} (F : FnP K "plus" s_plus f fd) (gl : mg "plus" = some (.ref f)) (C_fraction : Cal P w K mg base 1 "fraction" ["top", "bottom"] m_fraction) : Cal P w K mg base 2 "plus" ["one", "other"] m_plus :=
  Cal.of (k := 1) F gl sc_plus (fun _ _ _ _ _ _ us hl => match us, hl with | [_, _], _ => rfl) fun cdv A outer s H E F0 hr => by
    have nd := sc_plus.nd; have tk := takesD (P := P) (w := w) (K := K) (mg := mg) (base := base) (N := N_plus) (qual := "plus") (scope := defScope s_plus) (f := f) (cdv := cdv) (A := A) (outer := outer) (s := s) (H := H) (E := E); have po := passes_of (X := cxOf (L2.CX P w) P w K mg base N_plus "plus" (defScope s_plus) f cdv A outer s H E) rfl; exact
    (vs_one (vs_ret (ve_cal C_fraction hr tk (va_cons (ve_op opv_add (ve_op opv_mul (ve_ix (ve_var 0) ve_int) (ve_ix (ve_var 1) ve_int)) (ve_op opv_mul (ve_ix (ve_var 1) ve_int) (ve_ix (ve_var 0) ve_int))) (va_cons (ve_op opv_mul (ve_ix (ve_var 0) ve_int) (ve_ix (ve_var 1) ve_int)) va_nil)))))
abbrev s_times : Stmt := top 10
abbrev N_times : List Str := ["one", "other"]
theorem sc_times : FnScope N_times ["one", "other"] (defScope s_times) := ⟨rfl, rfl, rfl, by decide +kernel, rfl, by decide +kernel, by decide +kernel⟩
noncomputable def b_times : Evn → RS :=
  (sRet (mSeq m_fraction (mCons (m2 pMul (m2 pIdx (mGet 0) (mC (.int 0))) (m2 pIdx (mGet 1) (mC (.int 0)))) (mCons (m2 pMul (m2 pIdx (mGet 0) (mC (.int 1))) (m2 pIdx (mGet 1) (mC (.int 1)))) mNil))))
noncomputable def m_times : List PyData → RE PyData := fnM 2 2 b_times
theorem ok_times {P : Program} {w : World} {K : PySem.W.Frag} {mg : Str → Option Value} {base : Heap} {f : Addr} {fd : FuncData} (F : FnP K "times" s_times f fd) (gl : mg "times" = some (.ref f)) (C_fraction : Cal P w K mg base 1 "fraction" ["top", "bottom"] m_fraction) : Cal P w K mg base 2 "times" ["one", "other"] m_times :=
  Cal.of (k := 1) F gl sc_times (fun _ _ _ _ _ _ us hl => match us, hl with | [_, _], _ => rfl) fun cdv A outer s H E F0 hr => by
    have nd := sc_times.nd; have tk := takesD (P := P) (w := w) (K := K) (mg := mg) (base := base) (N := N_times) (qual := "times") (scope := defScope s_times) (f := f) (cdv := cdv) (A := A) (outer := outer) (s := s) (H := H) (E := E); have po := passes_of (X := cxOf (L2.CX P w) P w K mg base N_times "times" (defScope s_times) f cdv A outer s H E) rfl; exact
    (vs_one (vs_ret (ve_cal C_fraction hr tk (va_cons (ve_op opv_mul (ve_ix (ve_var 0) ve_int) (ve_ix (ve_var 1) ve_int)) (va_cons (ve_op opv_mul (ve_ix (ve_var 0) ve_int) (ve_ix (ve_var 1) ve_int)) va_nil)))))
abbrev s_slope : Stmt := top 21
abbrev N_slope : List Str := ["line", "span", "a", "low", "b", "high"]
theorem sc_slope : FnScope N_slope ["line", "span"] (defScope s_slope) := ⟨rfl, rfl, rfl, by decide +kernel, rfl, by decide +kernel, by decide +kernel⟩
noncomputable def b_slope : Evn → RS :=
  (sThen (sAsg (mSeq mTup (mCons (m2 pIdx (m2 pIdx (mGet 0) (mC (.int 0))) (mGet 1)) (mCons (m2 pIdx (m2 pIdx (mGet 0) (mC (.int 0))) (m2 pAdd (mGet 1) (mC (.int 1)))) mNil))) (gT 2 (gC (gT 2 (gC (gN 2) (gC (gN 3) gE))) (gC (gT 2 (gC (gN 4) (gC (gN 5) gE))) gE))))
  (sRet (mSeq m_fraction (mCons (m2 pSub (mGet 5) (mGet 3)) (mCons (m2 pSub (mGet 4) (mGet 2)) mNil)))))
noncomputable def m_slope : List PyData → RE PyData := fnM 2 6 b_slope
theorem ok_slope {P : Program} {w : World} {K : PySem.W.Frag} {mg : Str → Option Value} {base : Heap} {f : Addr} {fd : FuncData} (F : FnP K "slope" s_slope f fd) (gl : mg "slope" = some (.ref f)) (C_fraction : Cal P w K mg base 1 "fraction" ["top", "bottom"] m_fraction) : Cal P w K mg base 2 "slope" ["line", "span"] m_slope :=
  Cal.of (k := 1) F gl sc_slope (fun _ _ _ _ _ _ us hl => match us, hl with | [_, _], _ => rfl) fun cdv A outer s H E F0 hr => by
    have nd := sc_slope.nd; have tk := takesD (P := P) (w := w) (K := K) (mg := mg) (base := base) (N := N_slope) (qual := "slope") (scope := defScope s_slope) (f := f) (cdv := cdv) (A := A) (outer := outer) (s := s) (H := H) (E := E); have po := passes_of (X := cxOf (L2.CX P w) P w K mg base N_slope "slope" (defScope s_slope) f cdv A outer s H E) rfl; exact
    (vs_cons (vs_asg (ve_tup (va_cons (ve_ix (ve_ix (ve_var 0) ve_int) (ve_var 1)) (va_cons (ve_ix (ve_ix (ve_var 0) ve_int) (ve_op opv_add (ve_var 1) ve_int)) va_nil))) (vg_tup rfl (vgs_cons (vg_tup rfl (vgs_cons (vg_name 2 nd) (vgs_cons (vg_name 3 nd) vgs_nil))) (vgs_cons (vg_tup rfl (vgs_cons (vg_name 4 nd) (vgs_cons (vg_name 5 nd) vgs_nil))) vgs_nil))))
  (vs_one (vs_ret (ve_cal C_fraction hr tk (va_cons (ve_op opv_sub (ve_var 5) (ve_var 3)) (va_cons (ve_op opv_sub (ve_var 4) (ve_var 2)) va_nil))))))
abbrev s_chord : Stmt := top 22
abbrev N_chord : List Str := ["line", "place", "span", "a", "low"]
theorem sc_chord : FnScope N_chord ["line", "place"] (defScope s_chord) := ⟨rfl, rfl, rfl, by decide +kernel, rfl, by decide +kernel, by decide +kernel⟩
noncomputable def b_chord : Evn → RS :=
  (sThen (sSet 2 (mSeq m_span_of (mCons (mGet 0) (mCons (mGet 1) mNil))))
  (sThen (sAsg (m2 pIdx (m2 pIdx (mGet 0) (mC (.int 0))) (mGet 2)) (gT 2 (gC (gN 3) (gC (gN 4) gE))))
  (sRet (mSeq m_plus (mCons (mSeq m_whole (mCons (mGet 4) mNil)) (mCons (mSeq m_times (mCons (mSeq m_slope (mCons (mGet 0) (mCons (mGet 2) mNil))) (mCons (mSeq m_minus (mCons (mGet 1) (mCons (mSeq m_whole (mCons (mGet 3) mNil)) mNil))) mNil))) mNil))))))
noncomputable def m_chord : List PyData → RE PyData := fnM 2 5 b_chord
theorem ok_chord {P : Program} {w : World} {K : PySem.W.Frag} {mg : Str → Option Value} {base : Heap} {f : Addr} {fd : FuncData} (F : FnP K "chord" s_chord f fd) (gl : mg "chord" = some (.ref f)) (C_span_of : Cal P w K mg base 3 "span_of" ["line", "place"] m_span_of) (C_whole : Cal P w K mg base 1 "whole" ["number"] m_whole) (C_minus : Cal P w K mg base 2 "minus" ["one", "other"] m_minus) (C_slope : Cal P w K mg base 2 "slope" ["line", "span"] m_slope) (C_times : Cal P w K mg base 2 "times" ["one", "other"] m_times) (C_plus : Cal P w K mg base 2 "plus" ["one", "other"] m_plus) : Cal P w K mg base 4 "chord" ["line", "place"] m_chord :=
  Cal.of (k := 3) F gl sc_chord (fun _ _ _ _ _ _ us hl => match us, hl with | [_, _], _ => rfl) fun cdv A outer s H E F0 hr => by
    have nd := sc_chord.nd; have tk := takesD (P := P) (w := w) (K := K) (mg := mg) (base := base) (N := N_chord) (qual := "chord") (scope := defScope s_chord) (f := f) (cdv := cdv) (A := A) (outer := outer) (s := s) (H := H) (E := E); have po := passes_of (X := cxOf (L2.CX P w) P w K mg base N_chord "chord" (defScope s_chord) f cdv A outer s H E) rfl; exact
    (vs_cons (vs_set 2 nd (ve_cal C_span_of hr tk (va_cons (ve_var 0) (va_cons (ve_var 1) va_nil))))
  (vs_cons (vs_asg (ve_ix (ve_ix (ve_var 0) ve_int) (ve_var 2)) (vg_tup rfl (vgs_cons (vg_name 3 nd) (vgs_cons (vg_name 4 nd) vgs_nil))))
  (vs_one (vs_ret (ve_cal C_plus hr tk (va_cons (ve_cal C_whole hr tk (va_cons (ve_var 4) va_nil)) (va_cons (ve_cal C_times hr tk (va_cons (ve_cal C_slope hr tk (va_cons (ve_var 0) (va_cons (ve_var 2) va_nil))) (va_cons (ve_cal C_minus hr tk (va_cons (ve_var 1) (va_cons (ve_cal C_whole hr tk (va_cons (ve_var 3) va_nil)) va_nil))) va_nil))) va_nil)))))))
abbrev s_over : Stmt := top 11
abbrev N_over : List Str := ["one", "other"]
theorem sc_over : FnScope N_over ["one", "other"] (defScope s_over) := ⟨rfl, rfl, rfl, by decide +kernel, rfl, by decide +kernel, by decide +kernel⟩
noncomputable def b_over : Evn → RS :=
  (sThen (sIf (mB (m2 pEq (m2 pIdx (mGet 1) (mC (.int 0))) (mC (.int 0))))
    (fun _ => .bad)
    sNx)
  (sRet (mSeq m_fraction (mCons (m2 pMul (m2 pIdx (mGet 0) (mC (.int 0))) (m2 pIdx (mGet 1) (mC (.int 1)))) (mCons (m2 pMul (m2 pIdx (mGet 0) (mC (.int 1))) (m2 pIdx (mGet 1) (mC (.int 0)))) mNil)))))
noncomputable def m_over : List PyData → RE PyData := fnM 2 2 b_over
theorem ok_over {P : Program} {w : World} {K : PySem.W.Frag} {mg : Str → Option Value} {base : Heap} {f : Addr} {fd : FuncData} (F : FnP K "over" s_over f fd) (gl : mg "over" = some (.ref f)) (C_fraction : Cal P w K mg base 1 "fraction" ["top", "bottom"] m_fraction) : Cal P w K mg base 2 "over" ["one", "other"] m_over :=
  Cal.of (k := 1) F gl sc_over (fun _ _ _ _ _ _ us hl => match us, hl with | [_, _], _ => rfl) fun cdv A outer s H E F0 hr => by
    have nd := sc_over.nd; have tk := takesD (P := P) (w := w) (K := K) (mg := mg) (base := base) (N := N_over) (qual := "over") (scope := defScope s_over) (f := f) (cdv := cdv) (A := A) (outer := outer) (s := s) (H := H) (E := E); have po := passes_of (X := cxOf (L2.CX P w) P w K mg base N_over "over" (defScope s_over) f cdv A outer s H E) rfl; exact
    (vs_cons (vs_if (vt_cmp (opv_eq hr) (ve_ix (ve_var 1) ve_int) ve_int) (vs_one vs_bad) vs_nil)
  (vs_one (vs_ret (ve_cal C_fraction hr tk (va_cons (ve_op opv_mul (ve_ix (ve_var 0) ve_int) (ve_ix (ve_var 1) ve_int)) (va_cons (ve_op opv_mul (ve_ix (ve_var 0) ve_int) (ve_ix (ve_var 1) ve_int)) va_nil))))))
abbrev s_lesser : Stmt := top 14
abbrev N_lesser : List Str := ["one", "other"]
theorem sc_lesser : FnScope N_lesser ["one", "other"] (defScope s_lesser) := ⟨rfl, rfl, rfl, by decide +kernel, rfl, by decide +kernel, by decide +kernel⟩
noncomputable def b_lesser : Evn → RS :=
  (sThen (sIf (mT (mSeq m_is_less (mCons (mGet 1) (mCons (mGet 0) mNil))))
    (sRet (mGet 1))
    sNx)
  (sRet (mGet 0)))
noncomputable def m_lesser : List PyData → RE PyData := fnM 2 2 b_lesser
theorem ok_lesser {P : Program} {w : World} {K : PySem.W.Frag} {mg : Str → Option Value} {base : Heap} {f : Addr} {fd : FuncData} (F : FnP K "lesser" s_lesser f fd) (gl : mg "lesser" = some (.ref f)) (C_is_less : Cal P w K mg base 1 "is_less" ["one", "other"] m_is_less) : Cal P w K mg base 2 "lesser" ["one", "other"] m_lesser :=
  Cal.of (k := 1) F gl sc_lesser (fun _ _ _ _ _ _ us hl => match us, hl with | [_, _], _ => rfl) fun cdv A outer s H E F0 hr => by
    have nd := sc_lesser.nd; have tk := takesD (P := P) (w := w) (K := K) (mg := mg) (base := base) (N := N_lesser) (qual := "lesser") (scope := defScope s_lesser) (f := f) (cdv := cdv) (A := A) (outer := outer) (s := s) (H := H) (E := E); have po := passes_of (X := cxOf (L2.CX P w) P w K mg base N_lesser "lesser" (defScope s_lesser) f cdv A outer s H E) rfl; exact
    (vs_cons (vs_if (vt_truth (ve_cal C_is_less hr tk (va_cons (ve_var 1) (va_cons (ve_var 0) va_nil)))) (vs_one (vs_ret (ve_var 1))) vs_nil)
  (vs_one (vs_ret (ve_var 0))))
abbrev s_greater : Stmt := top 15
abbrev N_greater : List Str := ["one", "other"]
theorem sc_greater : FnScope N_greater ["one", "other"] (defScope s_greater) := ⟨rfl, rfl, rfl, by decide +kernel, rfl, by decide +kernel, by decide +kernel⟩
noncomputable def b_greater : Evn → RS :=
  (sThen (sIf (mT (mSeq m_is_less (mCons (mGet 0) (mCons (mGet 1) mNil))))
    (sRet (mGet 1))
    sNx)
  (sRet (mGet 0)))
noncomputable def m_greater : List PyData → RE PyData := fnM 2 2 b_greater
theorem ok_greater {P : Program} {w : World} {K : PySem.W.Frag} {mg : Str → Option Value} {base : Heap} {f : Addr} {fd : FuncData} (F : FnP K "greater" s_greater f fd) (gl : mg "greater" = some (.ref f)) (C_is_less : Cal P w K mg base 1 "is_less" ["one", "other"] m_is_less) : Cal P w K mg base 2 "greater" ["one", "other"] m_greater :=
  Cal.of (k := 1) F gl sc_greater (fun _ _ _ _ _ _ us hl => match us, hl with | [_, _], _ => rfl) fun cdv A outer s H E F0 hr => by
    have nd := sc_greater.nd; have tk := takesD (P := P) (w := w) (K := K) (mg := mg) (base := base) (N := N_greater) (qual := "greater") (scope := defScope s_greater) (f := f) (cdv := cdv) (A := A) (outer := outer) (s := s) (H := H) (E := E); have po := passes_of (X := cxOf (L2.CX P w) P w K mg base N_greater "greater" (defScope s_greater) f cdv A outer s H E) rfl; exact
    (vs_cons (vs_if (vt_truth (ve_cal C_is_less hr tk (va_cons (ve_var 0) (va_cons (ve_var 1) va_nil)))) (vs_one (vs_ret (ve_var 1))) vs_nil)
  (vs_one (vs_ret (ve_var 0))))
abbrev s_load_moment : Stmt := top 24
abbrev N_load_moment : List Str := ["a", "b", "load", "place", "at", "weight", "near", "far"]
theorem sc_load_moment : FnScope N_load_moment ["a", "b", "load", "place"] (defScope s_load_moment) := ⟨rfl, rfl, rfl, by decide +kernel, rfl, by decide +kernel, by decide +kernel⟩
noncomputable def b_load_moment : Evn → RS :=
  (sThen (sAsg (mGet 2) (gT 2 (gC (gN 4) (gC (gN 5) gE))))
  (sThen (sSet 6 (mSeq m_minus (mCons (mSeq m_lesser (mCons (mGet 4) (mCons (mGet 3) mNil))) (mCons (mGet 0) mNil))))
  (sThen (sSet 7 (mSeq m_minus (mCons (mGet 1) (mCons (mSeq m_greater (mCons (mGet 4) (mCons (mGet 3) mNil))) mNil))))
  (sRet (mSeq m_over (mCons (mSeq m_times (mCons (mSeq m_whole (mCons (mGet 5) mNil)) (mCons (mSeq m_times (mCons (mGet 6) (mCons (mGet 7) mNil))) mNil))) (mCons (mSeq m_minus (mCons (mGet 1) (mCons (mGet 0) mNil))) mNil)))))))
noncomputable def m_load_moment : List PyData → RE PyData := fnM 4 8 b_load_moment
theorem ok_load_moment {P : Program} {w : World} {K : PySem.W.Frag} {mg : Str → Option Value} {base : Heap} {f : Addr} {fd : FuncData} (F : FnP K "load_moment" s_load_moment f fd) (gl : mg "load_moment" = some (.ref f)) (C_lesser : Cal P w K mg base 2 "lesser" ["one", "other"] m_lesser) (C_minus : Cal P w K mg base 2 "minus" ["one", "other"] m_minus) (C_greater : Cal P w K mg base 2 "greater" ["one", "other"] m_greater) (C_times : Cal P w K mg base 2 "times" ["one", "other"] m_times) (C_whole : Cal P w K mg base 1 "whole" ["number"] m_whole) (C_over : Cal P w K mg base 2 "over" ["one", "other"] m_over) : Cal P w K mg base 3 "load_moment" ["a", "b", "load", "place"] m_load_moment :=
  Cal.of (k := 2) F gl sc_load_moment (fun _ _ _ _ _ _ us hl => match us, hl with | [_, _, _, _], _ => rfl) fun cdv A outer s H E F0 hr => by
    have nd := sc_load_moment.nd; have tk := takesD (P := P) (w := w) (K := K) (mg := mg) (base := base) (N := N_load_moment) (qual := "load_moment") (scope := defScope s_load_moment) (f := f) (cdv := cdv) (A := A) (outer := outer) (s := s) (H := H) (E := E); have po := passes_of (X := cxOf (L2.CX P w) P w K mg base N_load_moment "load_moment" (defScope s_load_moment) f cdv A outer s H E) rfl; exact
    (vs_cons (vs_asg (ve_var 2) (vg_tup rfl (vgs_cons (vg_name 4 nd) (vgs_cons (vg_name 5 nd) vgs_nil))))
  (vs_cons (vs_set 6 nd (ve_cal C_minus hr tk (va_cons (ve_cal C_lesser hr tk (va_cons (ve_var 4) (va_cons (ve_var 3) va_nil))) (va_cons (ve_var 0) va_nil))))
  (vs_cons (vs_set 7 nd (ve_cal C_minus hr tk (va_cons (ve_var 1) (va_cons (ve_cal C_greater hr tk (va_cons (ve_var 4) (va_cons (ve_var 3) va_nil))) va_nil))))
  (vs_one (vs_ret (ve_cal C_over hr tk (va_cons (ve_cal C_times hr tk (va_cons (ve_cal C_whole hr tk (va_cons (ve_var 5) va_nil)) (va_cons (ve_cal C_times hr tk (va_cons (ve_var 6) (va_cons (ve_var 7) va_nil))) va_nil))) (va_cons (ve_cal C_minus hr tk (va_cons (ve_var 1) (va_cons (ve_var 0) va_nil))) va_nil))))))))
abbrev s_sum_of : Stmt := top 13
abbrev N_sum_of : List Str := ["some", "found", "one"]
theorem sc_sum_of : FnScope N_sum_of ["some"] (defScope s_sum_of) := ⟨rfl, rfl, rfl, by decide +kernel, rfl, by decide +kernel, by decide +kernel⟩
noncomputable def l_sum_of_0 : Evn → RS :=
  (sSet 1 (mSeq m_plus (mCons (mGet 1) (mCons (mGet 2) mNil))))
theorem u_sum_of_0 (ρ : Evn) : l_sum_of_0 ρ = (sSet 1 (mSeq m_plus (mCons (mGet 1) (mCons (mGet 2) mNil)))) ρ := nr rfl
noncomputable def b_sum_of : Evn → RS :=
  (sThen (sSet 1 (mC (.tuple (([0, 1] : List Int).map .int))))
  (sThen (sFor (mItems (mGet 0)) (gN 2) l_sum_of_0)
  (sRet (mGet 1))))
noncomputable def m_sum_of : List PyData → RE PyData := fnM 1 3 b_sum_of
theorem ok_sum_of {P : Program} {w : World} {K : PySem.W.Frag} {mg : Str → Option Value} {base : Heap} {f : Addr} {fd : FuncData} (F : FnP K "sum_of" s_sum_of f fd) (gl : mg "sum_of" = some (.ref f)) (gi_ZERO : GTup K mg "ZERO" [0, 1]) (C_plus : Cal P w K mg base 2 "plus" ["one", "other"] m_plus) : Cal P w K mg base 3 "sum_of" ["some"] m_sum_of :=
  Cal.of (k := 2) F gl sc_sum_of (fun _ _ _ _ _ _ us hl => match us, hl with | [_], _ => rfl) fun cdv A outer s H E F0 hr => by
    have nd := sc_sum_of.nd; have tk := takesD (P := P) (w := w) (K := K) (mg := mg) (base := base) (N := N_sum_of) (qual := "sum_of") (scope := defScope s_sum_of) (f := f) (cdv := cdv) (A := A) (outer := outer) (s := s) (H := H) (E := E); have po := passes_of (X := cxOf (L2.CX P w) P w K mg base N_sum_of "sum_of" (defScope s_sum_of) f cdv A outer s H E) rfl; exact
    (vs_cons (vs_set 1 nd (ve_gtup gi_ZERO))
  (vs_cons (vs_for po rfl (vi_items (ve_var 0)) (vg_name 2 nd) (vs_one (vs_set 1 nd (ve_cal C_plus hr tk (va_cons (ve_var 1) (va_cons (ve_var 2) va_nil))))))
  (vs_one (vs_ret (ve_var 1)))))
abbrev s_rope_moment : Stmt := top 25
abbrev N_rope_moment : List Str := ["line", "a", "b", "place"]
theorem sc_rope_moment : FnScope N_rope_moment ["line", "a", "b", "place"] (defScope s_rope_moment) := ⟨rfl, rfl, rfl, by decide +kernel, rfl, by decide +kernel, by decide +kernel⟩
noncomputable def b_rope_moment : Evn → RS :=
  (sRet (mSeq m_times (mCons (mSeq m_fraction (mCons (m2 pIdx (mGet 0) (mC (.int 1))) (mCons (mC (.int 2)) mNil))) (mCons (mSeq m_times (mCons (mSeq m_minus (mCons (mGet 3) (mCons (mGet 1) mNil))) (mCons (mSeq m_minus (mCons (mGet 2) (mCons (mGet 3) mNil))) mNil))) mNil))))
noncomputable def m_rope_moment : List PyData → RE PyData := fnM 4 4 b_rope_moment
theorem ok_rope_moment {P : Program} {w : World} {K : PySem.W.Frag} {mg : Str → Option Value} {base : Heap} {f : Addr} {fd : FuncData} (F : FnP K "rope_moment" s_rope_moment f fd) (gl : mg "rope_moment" = some (.ref f)) (C_minus : Cal P w K mg base 2 "minus" ["one", "other"] m_minus) (C_times : Cal P w K mg base 2 "times" ["one", "other"] m_times) (C_fraction : Cal P w K mg base 1 "fraction" ["top", "bottom"] m_fraction) : Cal P w K mg base 3 "rope_moment" ["line", "a", "b", "place"] m_rope_moment :=
  Cal.of (k := 2) F gl sc_rope_moment (fun _ _ _ _ _ _ us hl => match us, hl with | [_, _, _, _], _ => rfl) fun cdv A outer s H E F0 hr => by
    have nd := sc_rope_moment.nd; have tk := takesD (P := P) (w := w) (K := K) (mg := mg) (base := base) (N := N_rope_moment) (qual := "rope_moment") (scope := defScope s_rope_moment) (f := f) (cdv := cdv) (A := A) (outer := outer) (s := s) (H := H) (E := E); have po := passes_of (X := cxOf (L2.CX P w) P w K mg base N_rope_moment "rope_moment" (defScope s_rope_moment) f cdv A outer s H E) rfl; exact
    (vs_one (vs_ret (ve_cal C_times hr tk (va_cons (ve_cal C_fraction hr tk (va_cons (ve_ix (ve_var 0) ve_int) (va_cons ve_int va_nil))) (va_cons (ve_cal C_times hr tk (va_cons (ve_cal C_minus hr tk (va_cons (ve_var 3) (va_cons (ve_var 1) va_nil))) (va_cons (ve_cal C_minus hr tk (va_cons (ve_var 2) (va_cons (ve_var 3) va_nil))) va_nil))) va_nil)))))
abbrev s_loads_in : Stmt := top 23
abbrev N_loads_in : List Str := ["line", "loads", "span", "a", "b", "load"]
theorem sc_loads_in : FnScope N_loads_in ["line", "loads", "span"] (defScope s_loads_in) := ⟨rfl, rfl, rfl, by decide +kernel, rfl, by decide +kernel, by decide +kernel⟩
noncomputable def b_loads_in : Evn → RS :=
  (sThen (sAsg (mSeq m_span_ends (mCons (mGet 0) (mCons (mGet 2) mNil))) (gT 2 (gC (gN 3) (gC (gN 4) gE))))
  (sRet (mL (mLc (mItems (mGet 1)) (gN 5) (mAndB (mT (mSeq m_is_less (mCons (mGet 3) (mCons (m2 pIdx (mGet 5) (mC (.int 0))) mNil)))) (mT (mSeq m_is_less (mCons (m2 pIdx (mGet 5) (mC (.int 0))) (mCons (mGet 4) mNil))))) (mGet 5) [5]))))
noncomputable def m_loads_in : List PyData → RE PyData := fnM 3 6 b_loads_in
theorem ok_loads_in {P : Program} {w : World} {K : PySem.W.Frag} {mg : Str → Option Value} {base : Heap} {f : Addr} {fd : FuncData} (F : FnP K "loads_in" s_loads_in f fd) (gl : mg "loads_in" = some (.ref f)) (C_span_ends : Cal P w K mg base 2 "span_ends" ["line", "span"] m_span_ends) (C_is_less : Cal P w K mg base 1 "is_less" ["one", "other"] m_is_less) : Cal P w K mg base 3 "loads_in" ["line", "loads", "span"] m_loads_in :=
  Cal.of (k := 2) F gl sc_loads_in (fun _ _ _ _ _ _ us hl => match us, hl with | [_, _, _], _ => rfl) fun cdv A outer s H E F0 hr => by
    have nd := sc_loads_in.nd; have tk := takesD (P := P) (w := w) (K := K) (mg := mg) (base := base) (N := N_loads_in) (qual := "loads_in") (scope := defScope s_loads_in) (f := f) (cdv := cdv) (A := A) (outer := outer) (s := s) (H := H) (E := E); have po := passes_of (X := cxOf (L2.CX P w) P w K mg base N_loads_in "loads_in" (defScope s_loads_in) f cdv A outer s H E) rfl; exact
    (vs_cons (vs_asg (ve_cal C_span_ends hr tk (va_cons (ve_var 0) (va_cons (ve_var 2) va_nil))) (vg_tup rfl (vgs_cons (vg_name 3 nd) (vgs_cons (vg_name 4 nd) vgs_nil))))
  (vs_one (vs_ret (VF.v (vf_lc rfl nd (vi_items (ve_var 1)) (blkOk_by (own := [("load", 5)]) (N := N_loads_in) (sc := defScope s_loads_in) (by decide +kernel)) (fun _ _ _ _ _ => (vg_name 5 nd)) (fun _ _ _ _ _ => (vts_one (VW.t (vw_and (vt_truth (ve_cal C_is_less hr takesN (va_cons (ve_var 3) (va_cons (ve_ix (ve_var 5) ve_int) va_nil)))) (vw_and1 (vt_truth (ve_cal C_is_less hr takesN (va_cons (ve_ix (ve_var 5) ve_int) (va_cons (ve_var 4) va_nil))))))))) (fun _ _ _ _ _ => (ve_var 5)))))))
abbrev s_span_moment : Stmt := top 26
abbrev N_span_moment : List Str := ["line", "loads", "span", "place", "a", "b", "some", "load"]
theorem sc_span_moment : FnScope N_span_moment ["line", "loads", "span", "place"] (defScope s_span_moment) := ⟨rfl, rfl, rfl, by decide +kernel, rfl, by decide +kernel, by decide +kernel⟩
noncomputable def b_span_moment : Evn → RS :=
  (sThen (sAsg (mSeq m_span_ends (mCons (mGet 0) (mCons (mGet 2) mNil))) (gT 2 (gC (gN 4) (gC (gN 5) gE))))
  (sThen (sSetL 6 (mLc (mItems (mSeq m_loads_in (mCons (mGet 0) (mCons (mGet 1) (mCons (mGet 2) mNil))))) (gN 7) mYes (mSeq m_load_moment (mCons (mGet 4) (mCons (mGet 5) (mCons (mGet 7) (mCons (mGet 3) mNil))))) [7]))
  (sRet (mSeq m_plus (mCons (mSeq m_sum_of (mCons (mGet 6) mNil)) (mCons (mSeq m_rope_moment (mCons (mGet 0) (mCons (mGet 4) (mCons (mGet 5) (mCons (mGet 3) mNil))))) mNil))))))
noncomputable def m_span_moment : List PyData → RE PyData := fnM 4 8 b_span_moment
theorem ok_span_moment {P : Program} {w : World} {K : PySem.W.Frag} {mg : Str → Option Value} {base : Heap} {f : Addr} {fd : FuncData} (F : FnP K "span_moment" s_span_moment f fd) (gl : mg "span_moment" = some (.ref f)) (C_span_ends : Cal P w K mg base 2 "span_ends" ["line", "span"] m_span_ends) (C_loads_in : Cal P w K mg base 3 "loads_in" ["line", "loads", "span"] m_loads_in) (C_load_moment : Cal P w K mg base 3 "load_moment" ["a", "b", "load", "place"] m_load_moment) (C_rope_moment : Cal P w K mg base 3 "rope_moment" ["line", "a", "b", "place"] m_rope_moment) (C_sum_of : Cal P w K mg base 3 "sum_of" ["some"] m_sum_of) (C_plus : Cal P w K mg base 2 "plus" ["one", "other"] m_plus) : Cal P w K mg base 4 "span_moment" ["line", "loads", "span", "place"] m_span_moment :=
  Cal.of (k := 3) F gl sc_span_moment (fun _ _ _ _ _ _ us hl => match us, hl with | [_, _, _, _], _ => rfl) fun cdv A outer s H E F0 hr => by
    have nd := sc_span_moment.nd; have tk := takesD (P := P) (w := w) (K := K) (mg := mg) (base := base) (N := N_span_moment) (qual := "span_moment") (scope := defScope s_span_moment) (f := f) (cdv := cdv) (A := A) (outer := outer) (s := s) (H := H) (E := E); have po := passes_of (X := cxOf (L2.CX P w) P w K mg base N_span_moment "span_moment" (defScope s_span_moment) f cdv A outer s H E) rfl; exact
    (vs_cons (vs_asg (ve_cal C_span_ends hr tk (va_cons (ve_var 0) (va_cons (ve_var 2) va_nil))) (vg_tup rfl (vgs_cons (vg_name 4 nd) (vgs_cons (vg_name 5 nd) vgs_nil))))
  (vs_cons (vs_lcL 6 rfl nd (vi_items (ve_cal C_loads_in hr tk (va_cons (ve_var 0) (va_cons (ve_var 1) (va_cons (ve_var 2) va_nil))))) (blkOk_by (own := [("load", 7)]) (N := N_span_moment) (sc := defScope s_span_moment) (by decide +kernel)) (fun _ _ _ _ _ => (vg_name 7 nd)) (fun _ _ _ _ _ => vts_nil) (fun _ _ _ _ _ => (ve_cal C_load_moment hr takesN (va_cons (ve_var 4) (va_cons (ve_var 5) (va_cons (ve_var 7) (va_cons (ve_var 3) va_nil)))))))
  (vs_one (vs_ret (ve_cal C_plus hr tk (va_cons (ve_cal C_sum_of hr tk (va_cons (ve_var 6) va_nil)) (va_cons (ve_cal C_rope_moment hr tk (va_cons (ve_var 0) (va_cons (ve_var 4) (va_cons (ve_var 5) (va_cons (ve_var 3) va_nil))))) va_nil)))))))
abbrev s_moment : Stmt := top 27
abbrev N_moment : List Str := ["line", "loads", "place"]
theorem sc_moment : FnScope N_moment ["line", "loads", "place"] (defScope s_moment) := ⟨rfl, rfl, rfl, by decide +kernel, rfl, by decide +kernel, by decide +kernel⟩
noncomputable def b_moment : Evn → RS :=
  (sRet (mSeq m_span_moment (mCons (mGet 0) (mCons (mGet 1) (mCons (mSeq m_span_of (mCons (mGet 0) (mCons (mGet 2) mNil))) (mCons (mGet 2) mNil))))))
noncomputable def m_moment : List PyData → RE PyData := fnM 3 3 b_moment
theorem ok_moment {P : Program} {w : World} {K : PySem.W.Frag} {mg : Str → Option Value} {base : Heap} {f : Addr} {fd : FuncData} (F : FnP K "moment" s_moment f fd) (gl : mg "moment" = some (.ref f)) (C_span_of : Cal P w K mg base 3 "span_of" ["line", "place"] m_span_of) (C_span_moment : Cal P w K mg base 4 "span_moment" ["line", "loads", "span", "place"] m_span_moment) : Cal P w K mg base 5 "moment" ["line", "loads", "place"] m_moment :=
  Cal.of (k := 4) F gl sc_moment (fun _ _ _ _ _ _ us hl => match us, hl with | [_, _, _], _ => rfl) fun cdv A outer s H E F0 hr => by
    have nd := sc_moment.nd; have tk := takesD (P := P) (w := w) (K := K) (mg := mg) (base := base) (N := N_moment) (qual := "moment") (scope := defScope s_moment) (f := f) (cdv := cdv) (A := A) (outer := outer) (s := s) (H := H) (E := E); have po := passes_of (X := cxOf (L2.CX P w) P w K mg base N_moment "moment" (defScope s_moment) f cdv A outer s H E) rfl; exact
    (vs_one (vs_ret (ve_cal C_span_moment hr tk (va_cons (ve_var 0) (va_cons (ve_var 1) (va_cons (ve_cal C_span_of hr tk (va_cons (ve_var 0) (va_cons (ve_var 2) va_nil))) (va_cons (ve_var 2) va_nil)))))))
abbrev s_height : Stmt := top 28
abbrev N_height : List Str := ["line", "loads", "tension", "place"]
theorem sc_height : FnScope N_height ["line", "loads", "tension", "place"] (defScope s_height) := ⟨rfl, rfl, rfl, by decide +kernel, rfl, by decide +kernel, by decide +kernel⟩
noncomputable def b_height : Evn → RS :=
  (sRet (mSeq m_minus (mCons (mSeq m_chord (mCons (mGet 0) (mCons (mGet 3) mNil))) (mCons (mSeq m_over (mCons (mSeq m_moment (mCons (mGet 0) (mCons (mGet 1) (mCons (mGet 3) mNil)))) (mCons (mGet 2) mNil))) mNil))))
noncomputable def m_height : List PyData → RE PyData := fnM 4 4 b_height
theorem ok_height {P : Program} {w : World} {K : PySem.W.Frag} {mg : Str → Option Value} {base : Heap} {f : Addr} {fd : FuncData} (F : FnP K "height" s_height f fd) (gl : mg "height" = some (.ref f)) (C_moment : Cal P w K mg base 5 "moment" ["line", "loads", "place"] m_moment) (C_over : Cal P w K mg base 2 "over" ["one", "other"] m_over) (C_chord : Cal P w K mg base 4 "chord" ["line", "place"] m_chord) (C_minus : Cal P w K mg base 2 "minus" ["one", "other"] m_minus) : Cal P w K mg base 6 "height" ["line", "loads", "tension", "place"] m_height :=
  Cal.of (k := 5) F gl sc_height (fun _ _ _ _ _ _ us hl => match us, hl with | [_, _, _, _], _ => rfl) fun cdv A outer s H E F0 hr => by
    have nd := sc_height.nd; have tk := takesD (P := P) (w := w) (K := K) (mg := mg) (base := base) (N := N_height) (qual := "height") (scope := defScope s_height) (f := f) (cdv := cdv) (A := A) (outer := outer) (s := s) (H := H) (E := E); have po := passes_of (X := cxOf (L2.CX P w) P w K mg base N_height "height" (defScope s_height) f cdv A outer s H E) rfl; exact
    (vs_one (vs_ret (ve_cal C_minus hr tk (va_cons (ve_cal C_chord hr tk (va_cons (ve_var 0) (va_cons (ve_var 3) va_nil))) (va_cons (ve_cal C_over hr tk (va_cons (ve_cal C_moment hr tk (va_cons (ve_var 0) (va_cons (ve_var 1) (va_cons (ve_var 3) va_nil)))) (va_cons (ve_var 2) va_nil))) va_nil)))))
abbrev s_law_bare : Stmt := top 47
abbrev N_law_bare : List Str := ["line", "loads", "tension", "place", "told", "share"]
theorem sc_law_bare : FnScope N_law_bare ["line", "loads", "tension", "place"] (defScope s_law_bare) := ⟨rfl, rfl, rfl, by decide +kernel, rfl, by decide +kernel, by decide +kernel⟩
noncomputable def b_law_bare : Evn → RS :=
  (sThen (sSet 4 (mSeq m_height (mCons (mGet 0) (mCons (mGet 1) (mCons (mGet 2) (mCons (mGet 3) mNil))))))
  (sThen (sSet 5 (mSeq m_law_over (mCons (mSeq m_law_times (mCons (mSeq m_law_frac (mCons (m2 pIdx (mGet 0) (mC (.int 1))) (mCons (mC (.int 2)) mNil))) (mCons (mSeq m_law_times (mCons (mGet 3) (mCons (mGet 3) mNil))) mNil))) (mCons (mGet 2) mNil))))
  (sRet (mSeq m_law_minus (mCons (mGet 4) (mCons (mGet 5) mNil))))))
noncomputable def m_law_bare : List PyData → RE PyData := fnM 4 6 b_law_bare
theorem ok_law_bare {P : Program} {w : World} {K : PySem.W.Frag} {mg : Str → Option Value} {base : Heap} {f : Addr} {fd : FuncData} (F : FnP K "_law_bare" s_law_bare f fd) (gl : mg "_law_bare" = some (.ref f)) (C_height : Cal P w K mg base 6 "height" ["line", "loads", "tension", "place"] m_height) (C_law_times : Cal P w K mg base 3 "_law_times" ["one", "other"] m_law_times) (C_law_frac : Cal P w K mg base 2 "_law_frac" ["top", "bottom"] m_law_frac) (C_law_over : Cal P w K mg base 3 "_law_over" ["one", "other"] m_law_over) (C_law_minus : Cal P w K mg base 3 "_law_minus" ["one", "other"] m_law_minus) : Cal P w K mg base 7 "_law_bare" ["line", "loads", "tension", "place"] m_law_bare :=
  Cal.of (k := 6) F gl sc_law_bare (fun _ _ _ _ _ _ us hl => match us, hl with | [_, _, _, _], _ => rfl) fun cdv A outer s H E F0 hr => by
    have nd := sc_law_bare.nd; have tk := takesD (P := P) (w := w) (K := K) (mg := mg) (base := base) (N := N_law_bare) (qual := "_law_bare") (scope := defScope s_law_bare) (f := f) (cdv := cdv) (A := A) (outer := outer) (s := s) (H := H) (E := E); have po := passes_of (X := cxOf (L2.CX P w) P w K mg base N_law_bare "_law_bare" (defScope s_law_bare) f cdv A outer s H E) rfl; exact
    (vs_cons (vs_set 4 nd (ve_cal C_height hr tk (va_cons (ve_var 0) (va_cons (ve_var 1) (va_cons (ve_var 2) (va_cons (ve_var 3) va_nil))))))
  (vs_cons (vs_set 5 nd (ve_cal C_law_over hr tk (va_cons (ve_cal C_law_times hr tk (va_cons (ve_cal C_law_frac hr tk (va_cons (ve_ix (ve_var 0) ve_int) (va_cons ve_int va_nil))) (va_cons (ve_cal C_law_times hr tk (va_cons (ve_var 3) (va_cons (ve_var 3) va_nil))) va_nil))) (va_cons (ve_var 2) va_nil))))
  (vs_one (vs_ret (ve_cal C_law_minus hr tk (va_cons (ve_var 4) (va_cons (ve_var 5) va_nil)))))))
abbrev s_law_slope_between : Stmt := top 49
abbrev N_law_slope_between : List Str := ["line", "loads", "tension", "one", "other", "rise"]
theorem sc_law_slope_between : FnScope N_law_slope_between ["line", "loads", "tension", "one", "other"] (defScope s_law_slope_between) := ⟨rfl, rfl, rfl, by decide +kernel, rfl, by decide +kernel, by decide +kernel⟩
noncomputable def b_law_slope_between : Evn → RS :=
  (sThen (sSet 5 (mSeq m_law_minus (mCons (mSeq m_law_bare (mCons (mGet 0) (mCons (mGet 1) (mCons (mGet 2) (mCons (mGet 4) mNil))))) (mCons (mSeq m_law_bare (mCons (mGet 0) (mCons (mGet 1) (mCons (mGet 2) (mCons (mGet 3) mNil))))) mNil))))
  (sRet (mSeq m_law_over (mCons (mGet 5) (mCons (mSeq m_law_minus (mCons (mGet 4) (mCons (mGet 3) mNil))) mNil)))))
noncomputable def m_law_slope_between : List PyData → RE PyData := fnM 5 6 b_law_slope_between
theorem ok_law_slope_between {P : Program} {w : World} {K : PySem.W.Frag} {mg : Str → Option Value} {base : Heap} {f : Addr} {fd : FuncData} (F : FnP K "_law_slope_between" s_law_slope_between f fd) (gl : mg "_law_slope_between" = some (.ref f)) (C_law_bare : Cal P w K mg base 7 "_law_bare" ["line", "loads", "tension", "place"] m_law_bare) (C_law_minus : Cal P w K mg base 3 "_law_minus" ["one", "other"] m_law_minus) (C_law_over : Cal P w K mg base 3 "_law_over" ["one", "other"] m_law_over) : Cal P w K mg base 8 "_law_slope_between" ["line", "loads", "tension", "one", "other"] m_law_slope_between :=
  Cal.of (k := 7) F gl sc_law_slope_between (fun _ _ _ _ _ _ us hl => match us, hl with | [_, _, _, _, _], _ => rfl) fun cdv A outer s H E F0 hr => by
    have nd := sc_law_slope_between.nd; have tk := takesD (P := P) (w := w) (K := K) (mg := mg) (base := base) (N := N_law_slope_between) (qual := "_law_slope_between") (scope := defScope s_law_slope_between) (f := f) (cdv := cdv) (A := A) (outer := outer) (s := s) (H := H) (E := E); have po := passes_of (X := cxOf (L2.CX P w) P w K mg base N_law_slope_between "_law_slope_between" (defScope s_law_slope_between) f cdv A outer s H E) rfl; exact
    (vs_cons (vs_set 5 nd (ve_cal C_law_minus hr tk (va_cons (ve_cal C_law_bare hr tk (va_cons (ve_var 0) (va_cons (ve_var 1) (va_cons (ve_var 2) (va_cons (ve_var 4) va_nil))))) (va_cons (ve_cal C_law_bare hr tk (va_cons (ve_var 0) (va_cons (ve_var 1) (va_cons (ve_var 2) (va_cons (ve_var 3) va_nil))))) va_nil))))
  (vs_one (vs_ret (ve_cal C_law_over hr tk (va_cons (ve_var 5) (va_cons (ve_cal C_law_minus hr tk (va_cons (ve_var 4) (va_cons (ve_var 3) va_nil))) va_nil))))))
abbrev s_share_ahead : Stmt := top 29
abbrev N_share_ahead : List Str := ["line", "loads", "span", "a", "b", "some", "at", "weight"]
theorem sc_share_ahead : FnScope N_share_ahead ["line", "loads", "span"] (defScope s_share_ahead) := ⟨rfl, rfl, rfl, by decide +kernel, rfl, by decide +kernel, by decide +kernel⟩
noncomputable def b_share_ahead : Evn → RS :=
  (sThen (sAsg (mSeq m_span_ends (mCons (mGet 0) (mCons (mGet 2) mNil))) (gT 2 (gC (gN 3) (gC (gN 4) gE))))
  (sThen (sSetL 5 (mLc (mItems (mSeq m_loads_in (mCons (mGet 0) (mCons (mGet 1) (mCons (mGet 2) mNil))))) (gT 2 (gC (gN 6) (gC (gN 7) gE))) mYes (mSeq m_over (mCons (mSeq m_times (mCons (mSeq m_whole (mCons (mGet 7) mNil)) (mCons (mSeq m_minus (mCons (mGet 6) (mCons (mGet 3) mNil))) mNil))) (mCons (mSeq m_minus (mCons (mGet 4) (mCons (mGet 3) mNil))) mNil))) [6, 7]))
  (sRet (mSeq m_plus (mCons (mSeq m_sum_of (mCons (mGet 5) mNil)) (mCons (mSeq m_times (mCons (mSeq m_fraction (mCons (m2 pIdx (mGet 0) (mC (.int 1))) (mCons (mC (.int 2)) mNil))) (mCons (mSeq m_minus (mCons (mGet 4) (mCons (mGet 3) mNil))) mNil))) mNil))))))
noncomputable def m_share_ahead : List PyData → RE PyData := fnM 3 8 b_share_ahead
theorem ok_share_ahead {P : Program} {w : World} {K : PySem.W.Frag} {mg : Str → Option Value} {base : Heap} {f : Addr} {fd : FuncData} (F : FnP K "share_ahead" s_share_ahead f fd) (gl : mg "share_ahead" = some (.ref f)) (C_span_ends : Cal P w K mg base 2 "span_ends" ["line", "span"] m_span_ends) (C_loads_in : Cal P w K mg base 3 "loads_in" ["line", "loads", "span"] m_loads_in) (C_minus : Cal P w K mg base 2 "minus" ["one", "other"] m_minus) (C_whole : Cal P w K mg base 1 "whole" ["number"] m_whole) (C_times : Cal P w K mg base 2 "times" ["one", "other"] m_times) (C_over : Cal P w K mg base 2 "over" ["one", "other"] m_over) (C_fraction : Cal P w K mg base 1 "fraction" ["top", "bottom"] m_fraction) (C_sum_of : Cal P w K mg base 3 "sum_of" ["some"] m_sum_of) (C_plus : Cal P w K mg base 2 "plus" ["one", "other"] m_plus) : Cal P w K mg base 4 "share_ahead" ["line", "loads", "span"] m_share_ahead :=
  Cal.of (k := 3) F gl sc_share_ahead (fun _ _ _ _ _ _ us hl => match us, hl with | [_, _, _], _ => rfl) fun cdv A outer s H E F0 hr => by
    have nd := sc_share_ahead.nd; have tk := takesD (P := P) (w := w) (K := K) (mg := mg) (base := base) (N := N_share_ahead) (qual := "share_ahead") (scope := defScope s_share_ahead) (f := f) (cdv := cdv) (A := A) (outer := outer) (s := s) (H := H) (E := E); have po := passes_of (X := cxOf (L2.CX P w) P w K mg base N_share_ahead "share_ahead" (defScope s_share_ahead) f cdv A outer s H E) rfl; exact
    (vs_cons (vs_asg (ve_cal C_span_ends hr tk (va_cons (ve_var 0) (va_cons (ve_var 2) va_nil))) (vg_tup rfl (vgs_cons (vg_name 3 nd) (vgs_cons (vg_name 4 nd) vgs_nil))))
  (vs_cons (vs_lcL 5 rfl nd (vi_items (ve_cal C_loads_in hr tk (va_cons (ve_var 0) (va_cons (ve_var 1) (va_cons (ve_var 2) va_nil))))) (blkOk_by (own := [("at", 6), ("weight", 7)]) (N := N_share_ahead) (sc := defScope s_share_ahead) (by decide +kernel)) (fun _ _ _ _ _ => (vg_tup rfl (vgs_cons (vg_name 6 nd) (vgs_cons (vg_name 7 nd) vgs_nil)))) (fun _ _ _ _ _ => vts_nil) (fun _ _ _ _ _ => (ve_cal C_over hr takesN (va_cons (ve_cal C_times hr takesN (va_cons (ve_cal C_whole hr takesN (va_cons (ve_var 7) va_nil)) (va_cons (ve_cal C_minus hr takesN (va_cons (ve_var 6) (va_cons (ve_var 3) va_nil))) va_nil))) (va_cons (ve_cal C_minus hr takesN (va_cons (ve_var 4) (va_cons (ve_var 3) va_nil))) va_nil)))))
  (vs_one (vs_ret (ve_cal C_plus hr tk (va_cons (ve_cal C_sum_of hr tk (va_cons (ve_var 5) va_nil)) (va_cons (ve_cal C_times hr tk (va_cons (ve_cal C_fraction hr tk (va_cons (ve_ix (ve_var 0) ve_int) (va_cons ve_int va_nil))) (va_cons (ve_cal C_minus hr tk (va_cons (ve_var 4) (va_cons (ve_var 3) va_nil))) va_nil))) va_nil)))))))
abbrev s_share_behind : Stmt := top 30
abbrev N_share_behind : List Str := ["line", "loads", "span", "a", "b", "some", "at", "weight"]
theorem sc_share_behind : FnScope N_share_behind ["line", "loads", "span"] (defScope s_share_behind) := ⟨rfl, rfl, rfl, by decide +kernel, rfl, by decide +kernel, by decide +kernel⟩
noncomputable def b_share_behind : Evn → RS :=
  (sThen (sAsg (mSeq m_span_ends (mCons (mGet 0) (mCons (mGet 2) mNil))) (gT 2 (gC (gN 3) (gC (gN 4) gE))))
  (sThen (sSetL 5 (mLc (mItems (mSeq m_loads_in (mCons (mGet 0) (mCons (mGet 1) (mCons (mGet 2) mNil))))) (gT 2 (gC (gN 6) (gC (gN 7) gE))) mYes (mSeq m_over (mCons (mSeq m_times (mCons (mSeq m_whole (mCons (mGet 7) mNil)) (mCons (mSeq m_minus (mCons (mGet 4) (mCons (mGet 6) mNil))) mNil))) (mCons (mSeq m_minus (mCons (mGet 4) (mCons (mGet 3) mNil))) mNil))) [6, 7]))
  (sRet (mSeq m_plus (mCons (mSeq m_sum_of (mCons (mGet 5) mNil)) (mCons (mSeq m_times (mCons (mSeq m_fraction (mCons (m2 pIdx (mGet 0) (mC (.int 1))) (mCons (mC (.int 2)) mNil))) (mCons (mSeq m_minus (mCons (mGet 4) (mCons (mGet 3) mNil))) mNil))) mNil))))))
noncomputable def m_share_behind : List PyData → RE PyData := fnM 3 8 b_share_behind
theorem ok_share_behind {P : Program} {w : World} {K : PySem.W.Frag} {mg : Str → Option Value} {base : Heap} {f : Addr} {fd : FuncData} (F : FnP K "share_behind" s_share_behind f fd) (gl : mg "share_behind" = some (.ref f)) (C_span_ends : Cal P w K mg base 2 "span_ends" ["line", "span"] m_span_ends) (C_loads_in : Cal P w K mg base 3 "loads_in" ["line", "loads", "span"] m_loads_in) (C_minus : Cal P w K mg base 2 "minus" ["one", "other"] m_minus) (C_whole : Cal P w K mg base 1 "whole" ["number"] m_whole) (C_times : Cal P w K mg base 2 "times" ["one", "other"] m_times) (C_over : Cal P w K mg base 2 "over" ["one", "other"] m_over) (C_fraction : Cal P w K mg base 1 "fraction" ["top", "bottom"] m_fraction) (C_sum_of : Cal P w K mg base 3 "sum_of" ["some"] m_sum_of) (C_plus : Cal P w K mg base 2 "plus" ["one", "other"] m_plus) : Cal P w K mg base 4 "share_behind" ["line", "loads", "span"] m_share_behind :=
  Cal.of (k := 3) F gl sc_share_behind (fun _ _ _ _ _ _ us hl => match us, hl with | [_, _, _], _ => rfl) fun cdv A outer s H E F0 hr => by
    have nd := sc_share_behind.nd; have tk := takesD (P := P) (w := w) (K := K) (mg := mg) (base := base) (N := N_share_behind) (qual := "share_behind") (scope := defScope s_share_behind) (f := f) (cdv := cdv) (A := A) (outer := outer) (s := s) (H := H) (E := E); have po := passes_of (X := cxOf (L2.CX P w) P w K mg base N_share_behind "share_behind" (defScope s_share_behind) f cdv A outer s H E) rfl; exact
    (vs_cons (vs_asg (ve_cal C_span_ends hr tk (va_cons (ve_var 0) (va_cons (ve_var 2) va_nil))) (vg_tup rfl (vgs_cons (vg_name 3 nd) (vgs_cons (vg_name 4 nd) vgs_nil))))
  (vs_cons (vs_lcL 5 rfl nd (vi_items (ve_cal C_loads_in hr tk (va_cons (ve_var 0) (va_cons (ve_var 1) (va_cons (ve_var 2) va_nil))))) (blkOk_by (own := [("at", 6), ("weight", 7)]) (N := N_share_behind) (sc := defScope s_share_behind) (by decide +kernel)) (fun _ _ _ _ _ => (vg_tup rfl (vgs_cons (vg_name 6 nd) (vgs_cons (vg_name 7 nd) vgs_nil)))) (fun _ _ _ _ _ => vts_nil) (fun _ _ _ _ _ => (ve_cal C_over hr takesN (va_cons (ve_cal C_times hr takesN (va_cons (ve_cal C_whole hr takesN (va_cons (ve_var 7) va_nil)) (va_cons (ve_cal C_minus hr takesN (va_cons (ve_var 4) (va_cons (ve_var 6) va_nil))) va_nil))) (va_cons (ve_cal C_minus hr takesN (va_cons (ve_var 4) (va_cons (ve_var 3) va_nil))) va_nil)))))
  (vs_one (vs_ret (ve_cal C_plus hr tk (va_cons (ve_cal C_sum_of hr tk (va_cons (ve_var 5) va_nil)) (va_cons (ve_cal C_times hr tk (va_cons (ve_cal C_fraction hr tk (va_cons (ve_ix (ve_var 0) ve_int) (va_cons ve_int va_nil))) (va_cons (ve_cal C_minus hr tk (va_cons (ve_var 4) (va_cons (ve_var 3) va_nil))) va_nil))) va_nil)))))))
abbrev s_burden : Stmt := top 31
abbrev N_burden : List Str := ["line", "loads", "tower", "here", "found", "at", "weight"]
theorem sc_burden : FnScope N_burden ["line", "loads", "tower"] (defScope s_burden) := ⟨rfl, rfl, rfl, by decide +kernel, rfl, by decide +kernel, by decide +kernel⟩
noncomputable def b_burden : Evn → RS :=
  (sThen (sSet 3 (mSeq m_whole (mCons (m2 pIdx (m2 pIdx (m2 pIdx (mGet 0) (mC (.int 0))) (mGet 2)) (mC (.int 0))) mNil)))
  (sThen (sSet 4 (mSeq m_sum_of (mCons (mL (mLc (mItems (mGet 1)) (gT 2 (gC (gN 5) (gC (gN 6) gE))) (mB (m2 pEq (mGet 5) (mGet 3))) (mSeq m_whole (mCons (mGet 6) mNil)) [5, 6])) mNil)))
  (sThen (sIf (mB (m2 pGt (mGet 2) (mC (.int 0))))
    (sSet 4 (mSeq m_plus (mCons (mGet 4) (mCons (mSeq m_share_ahead (mCons (mGet 0) (mCons (mGet 1) (mCons (m2 pSub (mGet 2) (mC (.int 1))) mNil)))) mNil))))
    sNx)
  (sThen (sIf (mB (m2 pLt (mGet 2) (mSeq m_span_count (mCons (mGet 0) mNil))))
    (sSet 4 (mSeq m_plus (mCons (mGet 4) (mCons (mSeq m_share_behind (mCons (mGet 0) (mCons (mGet 1) (mCons (mGet 2) mNil)))) mNil))))
    sNx)
  (sRet (mGet 4))))))
noncomputable def m_burden : List PyData → RE PyData := fnM 3 7 b_burden
theorem ok_burden {P : Program} {w : World} {K : PySem.W.Frag} {mg : Str → Option Value} {base : Heap} {f : Addr} {fd : FuncData} (F : FnP K "burden" s_burden f fd) (gl : mg "burden" = some (.ref f)) (C_whole : Cal P w K mg base 1 "whole" ["number"] m_whole) (C_sum_of : Cal P w K mg base 3 "sum_of" ["some"] m_sum_of) (C_share_ahead : Cal P w K mg base 4 "share_ahead" ["line", "loads", "span"] m_share_ahead) (C_plus : Cal P w K mg base 2 "plus" ["one", "other"] m_plus) (C_span_count : Cal P w K mg base 1 "span_count" ["line"] m_span_count) (C_share_behind : Cal P w K mg base 4 "share_behind" ["line", "loads", "span"] m_share_behind) : Cal P w K mg base 5 "burden" ["line", "loads", "tower"] m_burden :=
  Cal.of (k := 4) F gl sc_burden (fun _ _ _ _ _ _ us hl => match us, hl with | [_, _, _], _ => rfl) fun cdv A outer s H E F0 hr => by
    have nd := sc_burden.nd; have tk := takesD (P := P) (w := w) (K := K) (mg := mg) (base := base) (N := N_burden) (qual := "burden") (scope := defScope s_burden) (f := f) (cdv := cdv) (A := A) (outer := outer) (s := s) (H := H) (E := E); have po := passes_of (X := cxOf (L2.CX P w) P w K mg base N_burden "burden" (defScope s_burden) f cdv A outer s H E) rfl; exact
    (vs_cons (vs_set 3 nd (ve_cal C_whole hr tk (va_cons (ve_ix (ve_ix (ve_ix (ve_var 0) ve_int) (ve_var 2)) ve_int) va_nil)))
  (vs_cons (vs_set 4 nd (ve_cal C_sum_of hr tk (va_cons (VF.v (vf_lc rfl nd (vi_items (ve_var 1)) (blkOk_by (own := [("at", 5), ("weight", 6)]) (N := N_burden) (sc := defScope s_burden) (by decide +kernel)) (fun _ _ _ _ _ => (vg_tup rfl (vgs_cons (vg_name 5 nd) (vgs_cons (vg_name 6 nd) vgs_nil)))) (fun _ _ _ _ _ => (vts_one (vt_cmp (opv_eq hr) (ve_var 5) (ve_var 3)))) (fun _ _ _ _ _ => (ve_cal C_whole hr takesN (va_cons (ve_var 6) va_nil))))) va_nil)))
  (vs_cons (vs_if (vt_cmp opv_gt (ve_var 2) ve_int) (vs_one (vs_set 4 nd (ve_cal C_plus hr tk (va_cons (ve_var 4) (va_cons (ve_cal C_share_ahead hr tk (va_cons (ve_var 0) (va_cons (ve_var 1) (va_cons (ve_op opv_sub (ve_var 2) ve_int) va_nil)))) va_nil))))) vs_nil)
  (vs_cons (vs_if (vt_cmp opv_lt (ve_var 2) (ve_cal C_span_count hr tk (va_cons (ve_var 0) va_nil))) (vs_one (vs_set 4 nd (ve_cal C_plus hr tk (va_cons (ve_var 4) (va_cons (ve_cal C_share_behind hr tk (va_cons (ve_var 0) (va_cons (ve_var 1) (va_cons (ve_var 2) va_nil)))) va_nil))))) vs_nil)
  (vs_one (vs_ret (ve_var 4)))))))
abbrev s_kink : Stmt := top 32
abbrev N_kink : List Str := ["line", "tower", "before", "behind"]
theorem sc_kink : FnScope N_kink ["line", "tower"] (defScope s_kink) := ⟨rfl, rfl, rfl, by decide +kernel, rfl, by decide +kernel, by decide +kernel⟩
noncomputable def b_kink : Evn → RS :=
  (sThen (sSet 2 (mIf (mB (m2 pGt (mGet 1) (mC (.int 0)))) (mSeq m_slope (mCons (mGet 0) (mCons (m2 pSub (mGet 1) (mC (.int 1))) mNil))) (mC (.tuple (([0, 1] : List Int).map .int)))))
  (sThen (sSet 3 (mIf (mB (m2 pLt (mGet 1) (mSeq m_span_count (mCons (mGet 0) mNil)))) (mSeq m_slope (mCons (mGet 0) (mCons (mGet 1) mNil))) (mC (.tuple (([0, 1] : List Int).map .int)))))
  (sRet (mSeq m_minus (mCons (mGet 2) (mCons (mGet 3) mNil))))))
noncomputable def m_kink : List PyData → RE PyData := fnM 2 4 b_kink
theorem ok_kink {P : Program} {w : World} {K : PySem.W.Frag} {mg : Str → Option Value} {base : Heap} {f : Addr} {fd : FuncData} (F : FnP K "kink" s_kink f fd) (gl : mg "kink" = some (.ref f)) (gi_ZERO : GTup K mg "ZERO" [0, 1]) (C_slope : Cal P w K mg base 2 "slope" ["line", "span"] m_slope) (C_span_count : Cal P w K mg base 1 "span_count" ["line"] m_span_count) (C_minus : Cal P w K mg base 2 "minus" ["one", "other"] m_minus) : Cal P w K mg base 3 "kink" ["line", "tower"] m_kink :=
  Cal.of (k := 2) F gl sc_kink (fun _ _ _ _ _ _ us hl => match us, hl with | [_, _], _ => rfl) fun cdv A outer s H E F0 hr => by
    have nd := sc_kink.nd; have tk := takesD (P := P) (w := w) (K := K) (mg := mg) (base := base) (N := N_kink) (qual := "kink") (scope := defScope s_kink) (f := f) (cdv := cdv) (A := A) (outer := outer) (s := s) (H := H) (E := E); have po := passes_of (X := cxOf (L2.CX P w) P w K mg base N_kink "kink" (defScope s_kink) f cdv A outer s H E) rfl; exact
    (vs_cons (vs_set 2 nd (ve_ifExp (vt_cmp opv_gt (ve_var 1) ve_int) (ve_cal C_slope hr tk (va_cons (ve_var 0) (va_cons (ve_op opv_sub (ve_var 1) ve_int) va_nil))) (ve_gtup gi_ZERO)))
  (vs_cons (vs_set 3 nd (ve_ifExp (vt_cmp opv_lt (ve_var 1) (ve_cal C_span_count hr tk (va_cons (ve_var 0) va_nil))) (ve_cal C_slope hr tk (va_cons (ve_var 0) (va_cons (ve_var 1) va_nil))) (ve_gtup gi_ZERO)))
  (vs_one (vs_ret (ve_cal C_minus hr tk (va_cons (ve_var 2) (va_cons (ve_var 3) va_nil)))))))
abbrev s_press : Stmt := top 33
abbrev N_press : List Str := ["line", "loads", "tension", "tower"]
theorem sc_press : FnScope N_press ["line", "loads", "tension", "tower"] (defScope s_press) := ⟨rfl, rfl, rfl, by decide +kernel, rfl, by decide +kernel, by decide +kernel⟩
noncomputable def b_press : Evn → RS :=
  (sRet (mSeq m_plus (mCons (mSeq m_burden (mCons (mGet 0) (mCons (mGet 1) (mCons (mGet 3) mNil)))) (mCons (mSeq m_times (mCons (mGet 2) (mCons (mSeq m_kink (mCons (mGet 0) (mCons (mGet 3) mNil))) mNil))) mNil))))
noncomputable def m_press : List PyData → RE PyData := fnM 4 4 b_press
theorem ok_press {P : Program} {w : World} {K : PySem.W.Frag} {mg : Str → Option Value} {base : Heap} {f : Addr} {fd : FuncData} (F : FnP K "press" s_press f fd) (gl : mg "press" = some (.ref f)) (C_kink : Cal P w K mg base 3 "kink" ["line", "tower"] m_kink) (C_times : Cal P w K mg base 2 "times" ["one", "other"] m_times) (C_burden : Cal P w K mg base 5 "burden" ["line", "loads", "tower"] m_burden) (C_plus : Cal P w K mg base 2 "plus" ["one", "other"] m_plus) : Cal P w K mg base 6 "press" ["line", "loads", "tension", "tower"] m_press :=
  Cal.of (k := 5) F gl sc_press (fun _ _ _ _ _ _ us hl => match us, hl with | [_, _, _, _], _ => rfl) fun cdv A outer s H E F0 hr => by
    have nd := sc_press.nd; have tk := takesD (P := P) (w := w) (K := K) (mg := mg) (base := base) (N := N_press) (qual := "press") (scope := defScope s_press) (f := f) (cdv := cdv) (A := A) (outer := outer) (s := s) (H := H) (E := E); have po := passes_of (X := cxOf (L2.CX P w) P w K mg base N_press "press" (defScope s_press) f cdv A outer s H E) rfl; exact
    (vs_one (vs_ret (ve_cal C_plus hr tk (va_cons (ve_cal C_burden hr tk (va_cons (ve_var 0) (va_cons (ve_var 1) (va_cons (ve_var 3) va_nil)))) (va_cons (ve_cal C_times hr tk (va_cons (ve_var 2) (va_cons (ve_cal C_kink hr tk (va_cons (ve_var 0) (va_cons (ve_var 3) va_nil))) va_nil))) va_nil)))))
abbrev s_law : Stmt := top 50
abbrev N_law : List Str := ["script", "line", "loads", "draws", "tension", "x", "top", "marks", "load", "spot", "mark", "towers", "k", "middle", "near", "far", "weight", "split", "at", "place", "alone", "tower"]
theorem sc_law : FnScope N_law ["script"] (defScope s_law) := ⟨rfl, rfl, rfl, by decide +kernel, rfl, by decide +kernel, by decide +kernel⟩
noncomputable def l_law_0 : Evn → RS :=
  (sIf (mB (m2 pNe (mSeq m_height (mCons (mGet 1) (mCons (mGet 2) (mCons (mGet 4) (mCons (mSeq mTup (mCons (mGet 5) (mCons (mC (.int 1)) mNil))) mNil))))) (mSeq mTup (mCons (mGet 6) (mCons (mC (.int 1)) mNil)))))
    (sRet (mC (.bool false)))
    sNx)
theorem u_law_0 (ρ : Evn) : l_law_0 ρ = (sIf (mB (m2 pNe (mSeq m_height (mCons (mGet 1) (mCons (mGet 2) (mCons (mGet 4) (mCons (mSeq mTup (mCons (mGet 5) (mCons (mC (.int 1)) mNil))) mNil))))) (mSeq mTup (mCons (mGet 6) (mCons (mC (.int 1)) mNil)))))
    (sRet (mC (.bool false)))
    sNx) ρ := nr rfl
noncomputable def l_law_1 : Evn → RS :=
  (sThen (sSet 9 (mCall bLen (mCons (mL (mLc (mItems (mGet 7)) (gN 10) (mT (mSeq m_law_less (mCons (mGet 10) (mCons (m2 pIdx (mGet 8) (mC (.int 0))) mNil)))) (mGet 10) [10])) mNil)))
  (sIf (mB (m2 pNotIn (m2 pIdx (mGet 8) (mC (.int 0))) (mGet 7)))
    (sSet 7 (m2 pAdd (m2 pAdd (mCut (mGet 7) (mPart (mC (.int 0))) (mPart (mGet 9))) (mSeq mLst (mCons (m2 pIdx (mGet 8) (mC (.int 0))) mNil))) (mCut (mGet 7) (mPart (mGet 9)) mNo)))
    sNx))
theorem u_law_1 (ρ : Evn) : l_law_1 ρ = (sThen (sSet 9 (mCall bLen (mCons (mL (mLc (mItems (mGet 7)) (gN 10) (mT (mSeq m_law_less (mCons (mGet 10) (mCons (m2 pIdx (mGet 8) (mC (.int 0))) mNil)))) (mGet 10) [10])) mNil)))
  (sIf (mB (m2 pNotIn (m2 pIdx (mGet 8) (mC (.int 0))) (mGet 7)))
    (sSet 7 (m2 pAdd (m2 pAdd (mCut (mGet 7) (mPart (mC (.int 0))) (mPart (mGet 9))) (mSeq mLst (mCons (m2 pIdx (mGet 8) (mC (.int 0))) mNil))) (mCut (mGet 7) (mPart (mGet 9)) mNo)))
    sNx)) ρ := nr rfl
noncomputable def l_law_2 : Evn → RS :=
  (sThen (sSet 13 (mSeq m_law_middle (mCons (m2 pIdx (mGet 7) (m2 pSub (mGet 12) (mC (.int 1)))) (mCons (m2 pIdx (mGet 7) (mGet 12)) mNil))))
  (sThen (sSet 14 (mSeq m_law_slope_between (mCons (mGet 1) (mCons (mGet 2) (mCons (mGet 4) (mCons (m2 pIdx (mGet 7) (m2 pSub (mGet 12) (mC (.int 1)))) (mCons (mGet 13) mNil)))))))
  (sThen (sIf (mB (m2 pNe (mGet 14) (mSeq m_law_slope_between (mCons (mGet 1) (mCons (mGet 2) (mCons (mGet 4) (mCons (mGet 13) (mCons (m2 pIdx (mGet 7) (mGet 12)) mNil))))))))
    (sRet (mC (.bool false)))
    sNx)
  (sIf (mAndB (mB (m2 pLt (m2 pAdd (mGet 12) (mC (.int 1))) (mCall bLen (mCons (mGet 7) mNil)))) (mB (m2 pNotIn (m2 pIdx (mGet 7) (mGet 12)) (mGet 11))))
    (sThen (sSet 15 (mSeq m_law_slope_between (mCons (mGet 1) (mCons (mGet 2) (mCons (mGet 4) (mCons (m2 pIdx (mGet 7) (mGet 12)) (mCons (mSeq m_law_middle (mCons (m2 pIdx (mGet 7) (mGet 12)) (mCons (m2 pIdx (mGet 7) (m2 pAdd (mGet 12) (mC (.int 1)))) mNil))) mNil)))))))
    (sThen (sSet 16 (mCall bSum (mCons (mL (mLc (mItems (mGet 2)) (gN 8) (mB (m2 pEq (m2 pIdx (mGet 8) (mC (.int 0))) (m2 pIdx (mGet 7) (mGet 12)))) (m2 pIdx (mGet 8) (mC (.int 1))) [8])) mNil)))
    (sIf (mB (m2 pNe (mSeq m_law_minus (mCons (mGet 15) (mCons (mGet 14) mNil))) (mSeq m_law_over (mCons (mSeq mTup (mCons (mGet 16) (mCons (mC (.int 1)) mNil))) (mCons (mGet 4) mNil)))))
      (sRet (mC (.bool false)))
      sNx)))
    sNx))))
theorem u_law_2 (ρ : Evn) : l_law_2 ρ = (sThen (sSet 13 (mSeq m_law_middle (mCons (m2 pIdx (mGet 7) (m2 pSub (mGet 12) (mC (.int 1)))) (mCons (m2 pIdx (mGet 7) (mGet 12)) mNil))))
  (sThen (sSet 14 (mSeq m_law_slope_between (mCons (mGet 1) (mCons (mGet 2) (mCons (mGet 4) (mCons (m2 pIdx (mGet 7) (m2 pSub (mGet 12) (mC (.int 1)))) (mCons (mGet 13) mNil)))))))
  (sThen (sIf (mB (m2 pNe (mGet 14) (mSeq m_law_slope_between (mCons (mGet 1) (mCons (mGet 2) (mCons (mGet 4) (mCons (mGet 13) (mCons (m2 pIdx (mGet 7) (mGet 12)) mNil))))))))
    (sRet (mC (.bool false)))
    sNx)
  (sIf (mAndB (mB (m2 pLt (m2 pAdd (mGet 12) (mC (.int 1))) (mCall bLen (mCons (mGet 7) mNil)))) (mB (m2 pNotIn (m2 pIdx (mGet 7) (mGet 12)) (mGet 11))))
    (sThen (sSet 15 (mSeq m_law_slope_between (mCons (mGet 1) (mCons (mGet 2) (mCons (mGet 4) (mCons (m2 pIdx (mGet 7) (mGet 12)) (mCons (mSeq m_law_middle (mCons (m2 pIdx (mGet 7) (mGet 12)) (mCons (m2 pIdx (mGet 7) (m2 pAdd (mGet 12) (mC (.int 1)))) mNil))) mNil)))))))
    (sThen (sSet 16 (mCall bSum (mCons (mL (mLc (mItems (mGet 2)) (gN 8) (mB (m2 pEq (m2 pIdx (mGet 8) (mC (.int 0))) (m2 pIdx (mGet 7) (mGet 12)))) (m2 pIdx (mGet 8) (mC (.int 1))) [8])) mNil)))
    (sIf (mB (m2 pNe (mSeq m_law_minus (mCons (mGet 15) (mCons (mGet 14) mNil))) (mSeq m_law_over (mCons (mSeq mTup (mCons (mGet 16) (mCons (mC (.int 1)) mNil))) (mCons (mGet 4) mNil)))))
      (sRet (mC (.bool false)))
      sNx)))
    sNx)))) ρ := nr rfl
noncomputable def l_law_3 : Evn → RS :=
  (sIf (mB (m2 pGt (mGet 16) (mC (.int 1))))
    (fun ρ => (sSetO 17 (mCat (mGet 17) (mSeq mLst (mCons (mSeq mTup (mCons (mGet 18) (mCons (mC (.int 1)) mNil))) (mCons (mSeq mTup (mCons (mGet 18) (mCons (m2 pSub (mGet 16) (mC (.int 1))) mNil))) mNil))))) (freeze 17 ρ))
    (sApp 17 (mSeq mTup (mCons (mGet 18) (mCons (mGet 16) mNil)))))
theorem u_law_3 (ρ : Evn) : l_law_3 ρ = (sIf (mB (m2 pGt (mGet 16) (mC (.int 1))))
    (fun ρ => (sSetO 17 (mCat (mGet 17) (mSeq mLst (mCons (mSeq mTup (mCons (mGet 18) (mCons (mC (.int 1)) mNil))) (mCons (mSeq mTup (mCons (mGet 18) (mCons (m2 pSub (mGet 16) (mC (.int 1))) mNil))) mNil))))) (freeze 17 ρ))
    (sApp 17 (mSeq mTup (mCons (mGet 18) (mCons (mGet 16) mNil))))) ρ := nr rfl
noncomputable def l_law_4 : Evn → RS :=
  (sSet 20 (mSeq m_law_plus (mCons (mGet 20) (mCons (mSeq m_moment (mCons (mSeq mTup (mCons (m2 pIdx (mGet 1) (mC (.int 0))) (mCons (mC (.int 0)) mNil))) (mCons (mSeq mLst (mCons (mGet 8) mNil)) (mCons (mGet 19) mNil)))) mNil))))
theorem u_law_4 (ρ : Evn) : l_law_4 ρ = (sSet 20 (mSeq m_law_plus (mCons (mGet 20) (mCons (mSeq m_moment (mCons (mSeq mTup (mCons (m2 pIdx (mGet 1) (mC (.int 0))) (mCons (mC (.int 0)) mNil))) (mCons (mSeq mLst (mCons (mGet 8) mNil)) (mCons (mGet 19) mNil)))) mNil)))) ρ := nr rfl
noncomputable def l_law_5 : Evn → RS :=
  (sIf (mB (m2 pNe (mSeq m_press (mCons (mGet 1) (mCons (mGet 17) (mCons (mGet 4) (mCons (mGet 21) mNil))))) (mSeq m_press (mCons (mGet 1) (mCons (mGet 2) (mCons (mGet 4) (mCons (mGet 21) mNil)))))))
    (sRet (mC (.bool false)))
    sNx)
theorem u_law_5 (ρ : Evn) : l_law_5 ρ = (sIf (mB (m2 pNe (mSeq m_press (mCons (mGet 1) (mCons (mGet 17) (mCons (mGet 4) (mCons (mGet 21) mNil))))) (mSeq m_press (mCons (mGet 1) (mCons (mGet 2) (mCons (mGet 4) (mCons (mGet 21) mNil)))))))
    (sRet (mC (.bool false)))
    sNx) ρ := nr rfl
noncomputable def b_law : Evn → RS :=
  (sThen (sSet 1 (mSeq m_law_line (mCons (mGet 0) (mCons (mC (.int 0)) (mCons (mC (.int 8)) mNil)))))
  (sThen (sSet 2 (mSeq m_law_loads (mCons (mGet 0) (mCons (mC (.int 1)) (mCons (mGet 1) (mCons (mC (.int 7)) mNil))))))
  (sThen (sSet 3 (mSeq m_law_numbers (mCons (mSeq m_law_cell (mCons (mGet 0) (mCons (mC (.int 2)) mNil))) (mCons (mC (.int 8)) (mCons (mC (.int 5040)) mNil)))))
  (sThen (sSet 4 (mSeq m_law_frac (mCons (m2 pAdd (mC (.int 1)) (m2 pIdx (mGet 3) (mC (.int 0)))) (mCons (m2 pAdd (mC (.int 1)) (m2 pMod (m2 pIdx (mGet 3) (mC (.int 1))) (mC (.int 30)))) mNil))))
  (sThen (sFor (mItems (m2 pIdx (mGet 1) (mC (.int 0)))) (gT 2 (gC (gN 5) (gC (gN 6) gE))) l_law_0)
  (sThen (sSet 7 (mL (mLc (mItems (m2 pIdx (mGet 1) (mC (.int 0)))) (gT 2 (gC (gN 5) (gC (gN 6) gE))) mYes (mSeq mTup (mCons (mGet 5) (mCons (mC (.int 1)) mNil))) [5, 6])))
  (sThen (sFor (mItems (mGet 2)) (gN 8) l_law_1)
  (sThen (sSetL 11 (mLc (mItems (m2 pIdx (mGet 1) (mC (.int 0)))) (gT 2 (gC (gN 5) (gC (gN 6) gE))) mYes (mSeq mTup (mCons (mGet 5) (mCons (mC (.int 1)) mNil))) [5, 6]))
  (sThen (sFor (mWk rng2 (mCons (mC (.int 1)) (mCons (mCall bLen (mCons (mGet 7) mNil)) mNil))) (gN 12) l_law_2)
  (sThen (sSetO 17 (mDsp mNil))
  (sThen (sFor (mItems (mGet 2)) (gT 2 (gC (gN 18) (gC (gN 16) gE))) l_law_3)
  (sThen (sSet 19 (mSeq m_law_place (mCons (mGet 1) (mCons (m2 pIdx (mGet 3) (mC (.int 2))) (mCons (m2 pIdx (mGet 3) (mC (.int 3))) mNil)))))
  (sThen (fun ρ => (sIf (mOrB (mB (m2 pNe (mSeq m_moment (mCons (mGet 1) (mCons (mGet 17) (mCons (mGet 19) mNil)))) (mSeq m_moment (mCons (mGet 1) (mCons (mGet 2) (mCons (mGet 19) mNil)))))) (mB (m2 pNe (mSeq m_height (mCons (mGet 1) (mCons (mGet 17) (mCons (mGet 4) (mCons (mGet 19) mNil))))) (mSeq m_height (mCons (mGet 1) (mCons (mGet 2) (mCons (mGet 4) (mCons (mGet 19) mNil))))))))
    (sRet (mC (.bool false)))
    sNx) (freeze 17 ρ))
  (sThen (sSet 20 (mSeq mTup (mCons (mC (.int 0)) (mCons (mC (.int 1)) mNil))))
  (sThen (sFor (mItems (mGet 2)) (gN 8) l_law_4)
  (sThen (sIf (mB (m2 pNe (mSeq m_law_plus (mCons (mGet 20) (mCons (mSeq m_moment (mCons (mGet 1) (mCons (mSeq mLst mNil) (mCons (mGet 19) mNil)))) mNil))) (mSeq m_moment (mCons (mGet 1) (mCons (mGet 2) (mCons (mGet 19) mNil))))))
    (sRet (mC (.bool false)))
    sNx)
  (sThen (fun ρ => (sFor (mWk rng1 (mCons (mCall bLen (mCons (mGet 11) mNil)) mNil)) (gN 21) l_law_5) (freeze 17 ρ))
  (sRet (mC (.bool true))))))))))))))))))))
noncomputable def m_law : List PyData → RE PyData := fnM 1 22 b_law
theorem ok_law {P : Program} {w : World} {K : PySem.W.Frag} {mg : Str → Option Value} {base : Heap} {f : Addr} {fd : FuncData} (F : FnP K "law" s_law f fd) (bi : Bi mg) (C_law_line : Cal P w K mg base 2 "_law_line" ["script", "at", "most"] m_law_line) (C_law_loads : Cal P w K mg base 4 "_law_loads" ["script", "at", "line", "most"] m_law_loads) (C_law_cell : Cal P w K mg base 1 "_law_cell" ["script", "k"] m_law_cell) (C_law_numbers : Cal P w K mg base 1 "_law_numbers" ["cell", "count", "limit"] m_law_numbers) (C_law_frac : Cal P w K mg base 2 "_law_frac" ["top", "bottom"] m_law_frac) (C_height : Cal P w K mg base 6 "height" ["line", "loads", "tension", "place"] m_height) (C_law_less : Cal P w K mg base 1 "_law_less" ["one", "other"] m_law_less) (C_law_middle : Cal P w K mg base 4 "_law_middle" ["one", "other"] m_law_middle) (C_law_slope_between : Cal P w K mg base 8 "_law_slope_between" ["line", "loads", "tension", "one", "other"] m_law_slope_between) (C_law_minus : Cal P w K mg base 3 "_law_minus" ["one", "other"] m_law_minus) (C_law_over : Cal P w K mg base 3 "_law_over" ["one", "other"] m_law_over) (C_law_place : Cal P w K mg base 3 "_law_place" ["line", "one", "other"] m_law_place) (C_moment : Cal P w K mg base 5 "moment" ["line", "loads", "place"] m_moment) (C_law_plus : Cal P w K mg base 3 "_law_plus" ["one", "other"] m_law_plus) (C_press : Cal P w K mg base 6 "press" ["line", "loads", "tension", "tower"] m_press) : FnV P w K mg base 9 f fd ["script"] m_law :=
  FnV.ofP (k := 8) F sc_law fun cdv A outer s H E F0 hr => by
    have nd := sc_law.nd; have tk := takesD (P := P) (w := w) (K := K) (mg := mg) (base := base) (N := N_law) (qual := "law") (scope := defScope s_law) (f := f) (cdv := cdv) (A := A) (outer := outer) (s := s) (H := H) (E := E); have po := passes_of (X := cxOf (L2.CX P w) P w K mg base N_law "law" (defScope s_law) f cdv A outer s H E) rfl; exact
    (vs_cons (vs_set 1 nd (ve_cal C_law_line hr tk (va_cons (ve_var 0) (va_cons ve_int (va_cons ve_int va_nil)))))
  (vs_cons (vs_set 2 nd (ve_cal C_law_loads hr tk (va_cons (ve_var 0) (va_cons ve_int (va_cons (ve_var 1) (va_cons ve_int va_nil))))))
  (vs_cons (vs_set 3 nd (ve_cal C_law_numbers hr tk (va_cons (ve_cal C_law_cell hr tk (va_cons (ve_var 0) (va_cons ve_int va_nil))) (va_cons ve_int (va_cons ve_int va_nil)))))
  (vs_cons (vs_set 4 nd (ve_cal C_law_frac hr tk (va_cons (ve_op opv_add ve_int (ve_ix (ve_var 3) ve_int)) (va_cons (ve_op opv_add ve_int (ve_op opv_mod (ve_ix (ve_var 3) ve_int) ve_int)) va_nil))))
  (vs_cons (vs_for po rfl (vi_items (ve_ix (ve_var 1) ve_int)) (vg_tup rfl (vgs_cons (vg_name 5 nd) (vgs_cons (vg_name 6 nd) vgs_nil))) (vs_one (vs_if (vt_cmp (opv_ne hr) (ve_cal C_height hr tk (va_cons (ve_var 1) (va_cons (ve_var 2) (va_cons (ve_var 4) (va_cons (ve_tup (va_cons (ve_var 5) (va_cons ve_int va_nil))) va_nil))))) (ve_tup (va_cons (ve_var 6) (va_cons ve_int va_nil)))) (vs_one (vs_ret ve_bl)) vs_nil)))
  (vs_cons (vs_set 7 nd (VF.v (vf_lc rfl nd (vi_items (ve_ix (ve_var 1) ve_int)) (blkOk_by (own := [("x", 5), ("top", 6)]) (N := N_law) (sc := defScope s_law) (by decide +kernel)) (fun _ _ _ _ _ => (vg_tup rfl (vgs_cons (vg_name 5 nd) (vgs_cons (vg_name 6 nd) vgs_nil)))) (fun _ _ _ _ _ => vts_nil) (fun _ _ _ _ _ => (ve_tup (va_cons (ve_var 5) (va_cons ve_int va_nil)))))))
  (vs_cons (vs_for po rfl (vi_items (ve_var 2)) (vg_name 8 nd) (vs_cons (vs_set 9 nd (ve_callB cb_len rfl bi.l_len rfl (va_cons (VF.v (vf_lc rfl nd (vi_items (ve_var 7)) (blkOk_by (own := [("mark", 10)]) (N := N_law) (sc := defScope s_law) (by decide +kernel)) (fun _ _ _ _ _ => (vg_name 10 nd)) (fun _ _ _ _ _ => (vts_one (vt_truth (ve_cal C_law_less hr takesN (va_cons (ve_var 10) (va_cons (ve_ix (ve_var 8) ve_int) va_nil)))))) (fun _ _ _ _ _ => (ve_var 10)))) va_nil)))
  (vs_one (vs_if (vt_cmp (opv_notin hr) (ve_ix (ve_var 8) ve_int) (ve_var 7)) (vs_one (vs_set 7 nd (ve_op opv_add (ve_op opv_add (ve_cut (ve_var 7) (vo_some ve_int) (vo_some (ve_var 9))) (ve_lst (va_cons (ve_ix (ve_var 8) ve_int) va_nil))) (ve_cut (ve_var 7) (vo_some (ve_var 9)) vo_none)))) vs_nil))))
  (vs_cons (vs_lcL 11 rfl nd (vi_items (ve_ix (ve_var 1) ve_int)) (blkOk_by (own := [("x", 5), ("top", 6)]) (N := N_law) (sc := defScope s_law) (by decide +kernel)) (fun _ _ _ _ _ => (vg_tup rfl (vgs_cons (vg_name 5 nd) (vgs_cons (vg_name 6 nd) vgs_nil)))) (fun _ _ _ _ _ => vts_nil) (fun _ _ _ _ _ => (ve_tup (va_cons (ve_var 5) (va_cons ve_int va_nil)))))
  (vs_cons (vs_for po rfl (vi_range2 rfl bi.l_range (va_cons ve_int (va_cons (ve_callB cb_len rfl bi.l_len rfl (va_cons (ve_var 7) va_nil)) va_nil))) (vg_name 12 nd) (vs_cons (vs_set 13 nd (ve_cal C_law_middle hr tk (va_cons (ve_ix (ve_var 7) (ve_op opv_sub (ve_var 12) ve_int)) (va_cons (ve_ix (ve_var 7) (ve_var 12)) va_nil))))
  (vs_cons (vs_set 14 nd (ve_cal C_law_slope_between hr tk (va_cons (ve_var 1) (va_cons (ve_var 2) (va_cons (ve_var 4) (va_cons (ve_ix (ve_var 7) (ve_op opv_sub (ve_var 12) ve_int)) (va_cons (ve_var 13) va_nil)))))))
  (vs_cons (vs_if (vt_cmp (opv_ne hr) (ve_var 14) (ve_cal C_law_slope_between hr tk (va_cons (ve_var 1) (va_cons (ve_var 2) (va_cons (ve_var 4) (va_cons (ve_var 13) (va_cons (ve_ix (ve_var 7) (ve_var 12)) va_nil))))))) (vs_one (vs_ret ve_bl)) vs_nil)
  (vs_one (vs_if (VW.t (vw_and (vt_cmp opv_lt (ve_op opv_add (ve_var 12) ve_int) (ve_callB cb_len rfl bi.l_len rfl (va_cons (ve_var 7) va_nil))) (vw_and1 (vt_cmp (opv_notin hr) (ve_ix (ve_var 7) (ve_var 12)) (ve_var 11))))) (vs_cons (vs_set 15 nd (ve_cal C_law_slope_between hr tk (va_cons (ve_var 1) (va_cons (ve_var 2) (va_cons (ve_var 4) (va_cons (ve_ix (ve_var 7) (ve_var 12)) (va_cons (ve_cal C_law_middle hr tk (va_cons (ve_ix (ve_var 7) (ve_var 12)) (va_cons (ve_ix (ve_var 7) (ve_op opv_add (ve_var 12) ve_int)) va_nil))) va_nil)))))))
    (vs_cons (vs_set 16 nd (ve_callB (cb_sum rfl) rfl bi.l_sum rfl (va_cons (VF.v (vf_lc rfl nd (vi_items (ve_var 2)) (blkOk_by (own := [("load", 8)]) (N := N_law) (sc := defScope s_law) (by decide +kernel)) (fun _ _ _ _ _ => (vg_name 8 nd)) (fun _ _ _ _ _ => (vts_one (vt_cmp (opv_eq hr) (ve_ix (ve_var 8) ve_int) (ve_ix (ve_var 7) (ve_var 12))))) (fun _ _ _ _ _ => (ve_ix (ve_var 8) ve_int)))) va_nil)))
    (vs_one (vs_if (vt_cmp (opv_ne hr) (ve_cal C_law_minus hr tk (va_cons (ve_var 15) (va_cons (ve_var 14) va_nil))) (ve_cal C_law_over hr tk (va_cons (ve_tup (va_cons (ve_var 16) (va_cons ve_int va_nil))) (va_cons (ve_var 4) va_nil)))) (vs_one (vs_ret ve_bl)) vs_nil)))) vs_nil))))))
  (vs_cons (vs_setO 17 nd (vf_lst va_nil))
  (vs_cons (vs_for po rfl (vi_items (ve_var 2)) (vg_tup rfl (vgs_cons (vg_name 18 nd) (vgs_cons (vg_name 16 nd) vgs_nil))) (vs_one (vs_if (vt_cmp opv_gt (ve_var 16) ve_int) (vs_one (vs_freeze 17 (vs_setO 17 nd (vf_cat (ve_var 17) (ve_lst (va_cons (ve_tup (va_cons (ve_var 18) (va_cons ve_int va_nil))) (va_cons (ve_tup (va_cons (ve_var 18) (va_cons (ve_op opv_sub (ve_var 16) ve_int) va_nil))) va_nil))))))) (vs_one (vs_append 17 (ve_tup (va_cons (ve_var 18) (va_cons (ve_var 16) va_nil))))))))
  (vs_cons (vs_set 19 nd (ve_cal C_law_place hr tk (va_cons (ve_var 1) (va_cons (ve_ix (ve_var 3) ve_int) (va_cons (ve_ix (ve_var 3) ve_int) va_nil)))))
  (vs_cons (vs_freeze 17 (vs_if (VW.t (vw_or (vt_cmp (opv_ne hr) (ve_cal C_moment hr tk (va_cons (ve_var 1) (va_cons (ve_var 17) (va_cons (ve_var 19) va_nil)))) (ve_cal C_moment hr tk (va_cons (ve_var 1) (va_cons (ve_var 2) (va_cons (ve_var 19) va_nil))))) (vw_or1 (vt_cmp (opv_ne hr) (ve_cal C_height hr tk (va_cons (ve_var 1) (va_cons (ve_var 17) (va_cons (ve_var 4) (va_cons (ve_var 19) va_nil))))) (ve_cal C_height hr tk (va_cons (ve_var 1) (va_cons (ve_var 2) (va_cons (ve_var 4) (va_cons (ve_var 19) va_nil))))))))) (vs_one (vs_ret ve_bl)) vs_nil))
  (vs_cons (vs_set 20 nd (ve_tup (va_cons ve_int (va_cons ve_int va_nil))))
  (vs_cons (vs_for po rfl (vi_items (ve_var 2)) (vg_name 8 nd) (vs_one (vs_set 20 nd (ve_cal C_law_plus hr tk (va_cons (ve_var 20) (va_cons (ve_cal C_moment hr tk (va_cons (ve_tup (va_cons (ve_ix (ve_var 1) ve_int) (va_cons ve_int va_nil))) (va_cons (ve_lst (va_cons (ve_var 8) va_nil)) (va_cons (ve_var 19) va_nil)))) va_nil))))))
  (vs_cons (vs_if (vt_cmp (opv_ne hr) (ve_cal C_law_plus hr tk (va_cons (ve_var 20) (va_cons (ve_cal C_moment hr tk (va_cons (ve_var 1) (va_cons (ve_lst va_nil) (va_cons (ve_var 19) va_nil)))) va_nil))) (ve_cal C_moment hr tk (va_cons (ve_var 1) (va_cons (ve_var 2) (va_cons (ve_var 19) va_nil))))) (vs_one (vs_ret ve_bl)) vs_nil)
  (vs_cons (vs_freeze 17 (vs_for po rfl (vi_range1 rfl bi.l_range (va_cons (ve_callB cb_len rfl bi.l_len rfl (va_cons (ve_var 11) va_nil)) va_nil)) (vg_name 21 nd) (vs_one (vs_if (vt_cmp (opv_ne hr) (ve_cal C_press hr tk (va_cons (ve_var 1) (va_cons (ve_var 17) (va_cons (ve_var 4) (va_cons (ve_var 21) va_nil))))) (ve_cal C_press hr tk (va_cons (ve_var 1) (va_cons (ve_var 2) (va_cons (ve_var 4) (va_cons (ve_var 21) va_nil)))))) (vs_one (vs_ret ve_bl)) vs_nil))))
  (vs_one (vs_ret ve_bl)))))))))))))))))))
/-! ### the head -/
def d_law_numbers : He.DefD := ⟨("_law_numbers", none), "_law_numbers", "_law_numbers", defArgs s_law_numbers, defBody s_law_numbers, defScope s_law_numbers, [], []⟩
def d_law_cell : He.DefD := ⟨("_law_cell", none), "_law_cell", "_law_cell", defArgs s_law_cell, defBody s_law_cell, defScope s_law_cell, [], []⟩
def d_law_line : He.DefD := ⟨("_law_line", none), "_law_line", "_law_line", defArgs s_law_line, defBody s_law_line, defScope s_law_line, [], []⟩
def d_law_common : He.DefD := ⟨("_law_common", none), "_law_common", "_law_common", defArgs s_law_common, defBody s_law_common, defScope s_law_common, [], []⟩
def d_law_frac : He.DefD := ⟨("_law_frac", none), "_law_frac", "_law_frac", defArgs s_law_frac, defBody s_law_frac, defScope s_law_frac, [], []⟩
def d_law_place : He.DefD := ⟨("_law_place", none), "_law_place", "_law_place", defArgs s_law_place, defBody s_law_place, defScope s_law_place, [], []⟩
def d_law_less : He.DefD := ⟨("_law_less", none), "_law_less", "_law_less", defArgs s_law_less, defBody s_law_less, defScope s_law_less, [], []⟩
def d_law_loads : He.DefD := ⟨("_law_loads", none), "_law_loads", "_law_loads", defArgs s_law_loads, defBody s_law_loads, defScope s_law_loads, [], []⟩
def d_law_times : He.DefD := ⟨("_law_times", none), "_law_times", "_law_times", defArgs s_law_times, defBody s_law_times, defScope s_law_times, [], []⟩
def d_law_plus : He.DefD := ⟨("_law_plus", none), "_law_plus", "_law_plus", defArgs s_law_plus, defBody s_law_plus, defScope s_law_plus, [], []⟩
def d_law_middle : He.DefD := ⟨("_law_middle", none), "_law_middle", "_law_middle", defArgs s_law_middle, defBody s_law_middle, defScope s_law_middle, [], []⟩
def d_law_minus : He.DefD := ⟨("_law_minus", none), "_law_minus", "_law_minus", defArgs s_law_minus, defBody s_law_minus, defScope s_law_minus, [], []⟩
def d_law_over : He.DefD := ⟨("_law_over", none), "_law_over", "_law_over", defArgs s_law_over, defBody s_law_over, defScope s_law_over, [], []⟩
def d_fraction : He.DefD := ⟨("fraction", none), "fraction", "fraction", defArgs s_fraction, defBody s_fraction, defScope s_fraction, [], []⟩
def d_minus : He.DefD := ⟨("minus", none), "minus", "minus", defArgs s_minus, defBody s_minus, defScope s_minus, [], []⟩
def d_span_count : He.DefD := ⟨("span_count", none), "span_count", "span_count", defArgs s_span_count, defBody s_span_count, defScope s_span_count, [], []⟩
def d_is_less : He.DefD := ⟨("is_less", none), "is_less", "is_less", defArgs s_is_less, defBody s_is_less, defScope s_is_less, [], []⟩
def d_whole : He.DefD := ⟨("whole", none), "whole", "whole", defArgs s_whole, defBody s_whole, defScope s_whole, [], []⟩
def d_span_ends : He.DefD := ⟨("span_ends", none), "span_ends", "span_ends", defArgs s_span_ends, defBody s_span_ends, defScope s_span_ends, [], []⟩
def d_span_of : He.DefD := ⟨("span_of", none), "span_of", "span_of", defArgs s_span_of, defBody s_span_of, defScope s_span_of, [], []⟩
def d_plus : He.DefD := ⟨("plus", none), "plus", "plus", defArgs s_plus, defBody s_plus, defScope s_plus, [], []⟩
def d_times : He.DefD := ⟨("times", none), "times", "times", defArgs s_times, defBody s_times, defScope s_times, [], []⟩
def d_slope : He.DefD := ⟨("slope", none), "slope", "slope", defArgs s_slope, defBody s_slope, defScope s_slope, [], []⟩
def d_chord : He.DefD := ⟨("chord", none), "chord", "chord", defArgs s_chord, defBody s_chord, defScope s_chord, [], []⟩
def d_over : He.DefD := ⟨("over", none), "over", "over", defArgs s_over, defBody s_over, defScope s_over, [], []⟩
def d_lesser : He.DefD := ⟨("lesser", none), "lesser", "lesser", defArgs s_lesser, defBody s_lesser, defScope s_lesser, [], []⟩
def d_greater : He.DefD := ⟨("greater", none), "greater", "greater", defArgs s_greater, defBody s_greater, defScope s_greater, [], []⟩
def d_load_moment : He.DefD := ⟨("load_moment", none), "load_moment", "load_moment", defArgs s_load_moment, defBody s_load_moment, defScope s_load_moment, [], []⟩
def d_sum_of : He.DefD := ⟨("sum_of", none), "sum_of", "sum_of", defArgs s_sum_of, defBody s_sum_of, defScope s_sum_of, [], []⟩
def d_rope_moment : He.DefD := ⟨("rope_moment", none), "rope_moment", "rope_moment", defArgs s_rope_moment, defBody s_rope_moment, defScope s_rope_moment, [], []⟩
def d_loads_in : He.DefD := ⟨("loads_in", none), "loads_in", "loads_in", defArgs s_loads_in, defBody s_loads_in, defScope s_loads_in, [], []⟩
def d_span_moment : He.DefD := ⟨("span_moment", none), "span_moment", "span_moment", defArgs s_span_moment, defBody s_span_moment, defScope s_span_moment, [], []⟩
def d_moment : He.DefD := ⟨("moment", none), "moment", "moment", defArgs s_moment, defBody s_moment, defScope s_moment, [], []⟩
def d_height : He.DefD := ⟨("height", none), "height", "height", defArgs s_height, defBody s_height, defScope s_height, [], []⟩
def d_law_bare : He.DefD := ⟨("_law_bare", none), "_law_bare", "_law_bare", defArgs s_law_bare, defBody s_law_bare, defScope s_law_bare, [], []⟩
def d_law_slope_between : He.DefD := ⟨("_law_slope_between", none), "_law_slope_between", "_law_slope_between", defArgs s_law_slope_between, defBody s_law_slope_between, defScope s_law_slope_between, [], []⟩
def d_share_ahead : He.DefD := ⟨("share_ahead", none), "share_ahead", "share_ahead", defArgs s_share_ahead, defBody s_share_ahead, defScope s_share_ahead, [], []⟩
def d_share_behind : He.DefD := ⟨("share_behind", none), "share_behind", "share_behind", defArgs s_share_behind, defBody s_share_behind, defScope s_share_behind, [], []⟩
def d_burden : He.DefD := ⟨("burden", none), "burden", "burden", defArgs s_burden, defBody s_burden, defScope s_burden, [], []⟩
def d_kink : He.DefD := ⟨("kink", none), "kink", "kink", defArgs s_kink, defBody s_kink, defScope s_kink, [], []⟩
def d_press : He.DefD := ⟨("press", none), "press", "press", defArgs s_press, defBody s_press, defScope s_press, [], []⟩
def d_law : He.DefD := ⟨("law", none), "law", "law", defArgs s_law, defBody s_law, defScope s_law, [], []⟩
def fn : List He.DefD := [d_law_numbers, d_law_cell, d_law_line, d_law_common, d_law_frac, d_law_place, d_law_less, d_law_loads, d_law_times, d_law_plus, d_law_middle, d_law_minus, d_law_over, d_fraction, d_minus, d_span_count, d_is_less, d_whole, d_span_ends, d_span_of, d_plus, d_times, d_slope, d_chord, d_over, d_lesser, d_greater, d_load_moment, d_sum_of, d_rope_moment, d_loads_in, d_span_moment, d_moment, d_height, d_law_bare, d_law_slope_between, d_share_ahead, d_share_behind, d_burden, d_kink, d_press, d_law]
def fa : List He.Fa := [.glo "_law_numbers", .glo "_law_cell", .glo "_law_line", .glo "_law_common", .glo "_law_frac", .glo "_law_place", .glo "_law_less", .glo "_law_loads", .glo "_law_times", .glo "_law_plus", .glo "_law_middle", .glo "_law_minus", .glo "_law_over", .glo "fraction", .glo "minus", .glo "span_count", .glo "is_less", .glo "whole", .glo "span_ends", .glo "span_of", .glo "plus", .glo "times", .glo "slope", .glo "chord", .glo "over", .glo "lesser", .glo "greater", .glo "load_moment", .glo "sum_of", .glo "rope_moment", .glo "loads_in", .glo "span_moment", .glo "moment", .glo "height", .glo "_law_bare", .glo "_law_slope_between", .glo "share_ahead", .glo "share_behind", .glo "burden", .glo "kink", .glo "press", .glo "law", .free "abs", .free "int", .free "len", .free "range", .free "sum", .glo "ZERO"]
abbrev Rw : PySem.W.OpenRow := PySem.W.OpenLaw.row PySem.Challenge.rw_ropesbear_k03_whole_ropes_are_in_balance
def exb (K : PySem.W.Frag) : Bool := (decide (PySem.W.nsIn K mainGlobals "gcd" = some (some (.builtin "math.gcd"))) && (tupB "ZERO" [0, 1] K && true))
abbrev hk : PySem.W.Hook := He.hookX 4 fa fn [] [] exb
def ob (s : PySem.W.SharedT) : He.AlX := He.obsX 4 fa fn [] [] exb (HandSHeadRun.getT s)
theorem ob_eq (s : PySem.W.SharedT) : ob s = hk.obs s.abs := He.obsX_eq (HandSHeadRun.getT_eq s)
def loose : List Str := [("fraction" : Str), ("whole" : Str), ("plus" : Str), ("minus" : Str), ("times" : Str), ("over" : Str), ("is_less" : Str), ("sum_of" : Str), ("lesser" : Str), ("greater" : Str), ("span_count" : Str), ("span_ends" : Str), ("span_of" : Str), ("slope" : Str), ("chord" : Str), ("loads_in" : Str), ("load_moment" : Str), ("rope_moment" : Str), ("span_moment" : Str), ("moment" : Str), ("height" : Str), ("share_ahead" : Str), ("share_behind" : Str), ("burden" : Str), ("kink" : Str), ("press" : Str), ("_law_cell" : Str), ("_law_numbers" : Str), ("_law_common" : Str), ("_law_frac" : Str), ("_law_plus" : Str), ("_law_minus" : Str), ("_law_times" : Str), ("_law_over" : Str), ("_law_less" : Str), ("_law_line" : Str), ("_law_place" : Str), ("_law_loads" : Str), ("_law_bare" : Str), ("_law_middle" : Str), ("_law_slope_between" : Str), ("RopeError" : Str), ("InvalidFraction" : Str), ("ZERO" : Str)]
theorem run (w : World) : HandSHeadRun.RunEqI Rw (PySem.W.view Rw.prog [0, 50]) hk ob 3460 loose w := by
  unfold HandSHeadRun.RunEqI
  kernel_rfl
theorem facts {P : Program} {w : World} {K : PySem.W.Frag} {h : Heap} {mg : Str → Option Value} {f : Addr} (X : K.In h) (G : h.Ns mainGlobals mg) (hfa : mg ("law" : Str) = some (.ref f)) (c : He.SaysX fa fn [] [] exb w h K) :
    ∃ fd : FuncData, (∀ (s : Shared) (v : Value), BindsTo s fd ⟨[v], []⟩ [("script", v)]) ∧ ∀ base : Heap, K.In base → base.Ns mainGlobals mg → FnOk P w K mg base (L2.CX P w) 9 f fd ["script"] (SpV K mg 1 m_law) := by
  have cd := c.t.d
  obtain ⟨fd_law_numbers, F_law_numbers⟩ := cd.def_ 0 (d := d_law_numbers) rfl
  have gl_law_numbers := He.glo_ok X G (cd.fact 0 (f := .glo "_law_numbers") rfl)
  obtain ⟨fd_law_cell, F_law_cell⟩ := cd.def_ 1 (d := d_law_cell) rfl
  have gl_law_cell := He.glo_ok X G (cd.fact 1 (f := .glo "_law_cell") rfl)
  obtain ⟨fd_law_line, F_law_line⟩ := cd.def_ 2 (d := d_law_line) rfl
  have gl_law_line := He.glo_ok X G (cd.fact 2 (f := .glo "_law_line") rfl)
  obtain ⟨fd_law_common, F_law_common⟩ := cd.def_ 3 (d := d_law_common) rfl
  have gl_law_common := He.glo_ok X G (cd.fact 3 (f := .glo "_law_common") rfl)
  obtain ⟨fd_law_frac, F_law_frac⟩ := cd.def_ 4 (d := d_law_frac) rfl
  have gl_law_frac := He.glo_ok X G (cd.fact 4 (f := .glo "_law_frac") rfl)
  obtain ⟨fd_law_place, F_law_place⟩ := cd.def_ 5 (d := d_law_place) rfl
  have gl_law_place := He.glo_ok X G (cd.fact 5 (f := .glo "_law_place") rfl)
  obtain ⟨fd_law_less, F_law_less⟩ := cd.def_ 6 (d := d_law_less) rfl
  have gl_law_less := He.glo_ok X G (cd.fact 6 (f := .glo "_law_less") rfl)
  obtain ⟨fd_law_loads, F_law_loads⟩ := cd.def_ 7 (d := d_law_loads) rfl
  have gl_law_loads := He.glo_ok X G (cd.fact 7 (f := .glo "_law_loads") rfl)
  obtain ⟨fd_law_times, F_law_times⟩ := cd.def_ 8 (d := d_law_times) rfl
  have gl_law_times := He.glo_ok X G (cd.fact 8 (f := .glo "_law_times") rfl)
  obtain ⟨fd_law_plus, F_law_plus⟩ := cd.def_ 9 (d := d_law_plus) rfl
  have gl_law_plus := He.glo_ok X G (cd.fact 9 (f := .glo "_law_plus") rfl)
  obtain ⟨fd_law_middle, F_law_middle⟩ := cd.def_ 10 (d := d_law_middle) rfl
  have gl_law_middle := He.glo_ok X G (cd.fact 10 (f := .glo "_law_middle") rfl)
  obtain ⟨fd_law_minus, F_law_minus⟩ := cd.def_ 11 (d := d_law_minus) rfl
  have gl_law_minus := He.glo_ok X G (cd.fact 11 (f := .glo "_law_minus") rfl)
  obtain ⟨fd_law_over, F_law_over⟩ := cd.def_ 12 (d := d_law_over) rfl
  have gl_law_over := He.glo_ok X G (cd.fact 12 (f := .glo "_law_over") rfl)
  obtain ⟨fd_fraction, F_fraction⟩ := cd.def_ 13 (d := d_fraction) rfl
  have gl_fraction := He.glo_ok X G (cd.fact 13 (f := .glo "fraction") rfl)
  obtain ⟨fd_minus, F_minus⟩ := cd.def_ 14 (d := d_minus) rfl
  have gl_minus := He.glo_ok X G (cd.fact 14 (f := .glo "minus") rfl)
  obtain ⟨fd_span_count, F_span_count⟩ := cd.def_ 15 (d := d_span_count) rfl
  have gl_span_count := He.glo_ok X G (cd.fact 15 (f := .glo "span_count") rfl)
  obtain ⟨fd_is_less, F_is_less⟩ := cd.def_ 16 (d := d_is_less) rfl
  have gl_is_less := He.glo_ok X G (cd.fact 16 (f := .glo "is_less") rfl)
  obtain ⟨fd_whole, F_whole⟩ := cd.def_ 17 (d := d_whole) rfl
  have gl_whole := He.glo_ok X G (cd.fact 17 (f := .glo "whole") rfl)
  obtain ⟨fd_span_ends, F_span_ends⟩ := cd.def_ 18 (d := d_span_ends) rfl
  have gl_span_ends := He.glo_ok X G (cd.fact 18 (f := .glo "span_ends") rfl)
  obtain ⟨fd_span_of, F_span_of⟩ := cd.def_ 19 (d := d_span_of) rfl
  have gl_span_of := He.glo_ok X G (cd.fact 19 (f := .glo "span_of") rfl)
  obtain ⟨fd_plus, F_plus⟩ := cd.def_ 20 (d := d_plus) rfl
  have gl_plus := He.glo_ok X G (cd.fact 20 (f := .glo "plus") rfl)
  obtain ⟨fd_times, F_times⟩ := cd.def_ 21 (d := d_times) rfl
  have gl_times := He.glo_ok X G (cd.fact 21 (f := .glo "times") rfl)
  obtain ⟨fd_slope, F_slope⟩ := cd.def_ 22 (d := d_slope) rfl
  have gl_slope := He.glo_ok X G (cd.fact 22 (f := .glo "slope") rfl)
  obtain ⟨fd_chord, F_chord⟩ := cd.def_ 23 (d := d_chord) rfl
  have gl_chord := He.glo_ok X G (cd.fact 23 (f := .glo "chord") rfl)
  obtain ⟨fd_over, F_over⟩ := cd.def_ 24 (d := d_over) rfl
  have gl_over := He.glo_ok X G (cd.fact 24 (f := .glo "over") rfl)
  obtain ⟨fd_lesser, F_lesser⟩ := cd.def_ 25 (d := d_lesser) rfl
  have gl_lesser := He.glo_ok X G (cd.fact 25 (f := .glo "lesser") rfl)
  obtain ⟨fd_greater, F_greater⟩ := cd.def_ 26 (d := d_greater) rfl
  have gl_greater := He.glo_ok X G (cd.fact 26 (f := .glo "greater") rfl)
  obtain ⟨fd_load_moment, F_load_moment⟩ := cd.def_ 27 (d := d_load_moment) rfl
  have gl_load_moment := He.glo_ok X G (cd.fact 27 (f := .glo "load_moment") rfl)
  obtain ⟨fd_sum_of, F_sum_of⟩ := cd.def_ 28 (d := d_sum_of) rfl
  have gl_sum_of := He.glo_ok X G (cd.fact 28 (f := .glo "sum_of") rfl)
  obtain ⟨fd_rope_moment, F_rope_moment⟩ := cd.def_ 29 (d := d_rope_moment) rfl
  have gl_rope_moment := He.glo_ok X G (cd.fact 29 (f := .glo "rope_moment") rfl)
  obtain ⟨fd_loads_in, F_loads_in⟩ := cd.def_ 30 (d := d_loads_in) rfl
  have gl_loads_in := He.glo_ok X G (cd.fact 30 (f := .glo "loads_in") rfl)
  obtain ⟨fd_span_moment, F_span_moment⟩ := cd.def_ 31 (d := d_span_moment) rfl
  have gl_span_moment := He.glo_ok X G (cd.fact 31 (f := .glo "span_moment") rfl)
  obtain ⟨fd_moment, F_moment⟩ := cd.def_ 32 (d := d_moment) rfl
  have gl_moment := He.glo_ok X G (cd.fact 32 (f := .glo "moment") rfl)
  obtain ⟨fd_height, F_height⟩ := cd.def_ 33 (d := d_height) rfl
  have gl_height := He.glo_ok X G (cd.fact 33 (f := .glo "height") rfl)
  obtain ⟨fd_law_bare, F_law_bare⟩ := cd.def_ 34 (d := d_law_bare) rfl
  have gl_law_bare := He.glo_ok X G (cd.fact 34 (f := .glo "_law_bare") rfl)
  obtain ⟨fd_law_slope_between, F_law_slope_between⟩ := cd.def_ 35 (d := d_law_slope_between) rfl
  have gl_law_slope_between := He.glo_ok X G (cd.fact 35 (f := .glo "_law_slope_between") rfl)
  obtain ⟨fd_share_ahead, F_share_ahead⟩ := cd.def_ 36 (d := d_share_ahead) rfl
  have gl_share_ahead := He.glo_ok X G (cd.fact 36 (f := .glo "share_ahead") rfl)
  obtain ⟨fd_share_behind, F_share_behind⟩ := cd.def_ 37 (d := d_share_behind) rfl
  have gl_share_behind := He.glo_ok X G (cd.fact 37 (f := .glo "share_behind") rfl)
  obtain ⟨fd_burden, F_burden⟩ := cd.def_ 38 (d := d_burden) rfl
  have gl_burden := He.glo_ok X G (cd.fact 38 (f := .glo "burden") rfl)
  obtain ⟨fd_kink, F_kink⟩ := cd.def_ 39 (d := d_kink) rfl
  have gl_kink := He.glo_ok X G (cd.fact 39 (f := .glo "kink") rfl)
  obtain ⟨fd_press, F_press⟩ := cd.def_ 40 (d := d_press) rfl
  have gl_press := He.glo_ok X G (cd.fact 40 (f := .glo "press") rfl)
  obtain ⟨fd_law, F_law⟩ := cd.def_ 41 (d := d_law) rfl
  have gl_law := He.glo_ok X G (cd.fact 41 (f := .glo "law") rfl)
  have bi : Bi mg := ⟨He.free_ok X G (cd.fact 42 (f := .free "abs") rfl), He.free_ok X G (cd.fact 43 (f := .free "int") rfl), He.free_ok X G (cd.fact 44 (f := .free "len") rfl), He.free_ok X G (cd.fact 45 (f := .free "range") rfl), He.free_ok X G (cd.fact 46 (f := .free "sum") rfl)⟩
  have hex : exb K = true := c.more
  simp only [exb, Bool.and_eq_true] at hex
  have gb_gcd := PySem.W.mg_of X G (of_decide_eq_true hex.1)
  have gi_ZERO : GTup K mg "ZERO" [0, 1] := tup_of hex.2.1 (He.glo_ok X G (cd.fact 47 (f := .glo "ZERO") rfl))
  have e := hfa.symm.trans gl_law
  cases e
  have b := FunD.bindsA (ps := ["script"]) F_law fun _ _ _ _ _ _ us hl => match us, hl with | [_], _ => rfl
  refine ⟨fd_law, fun s v => b s [v] rfl, fun base _ _ => ?_⟩
  have C_law_numbers := ok_law_numbers (P := P) (w := w) (base := base) F_law_numbers gl_law_numbers bi
  have C_law_cell := ok_law_cell (P := P) (w := w) (base := base) F_law_cell gl_law_cell bi
  have C_law_line := ok_law_line (P := P) (w := w) (base := base) F_law_line gl_law_line bi C_law_cell C_law_numbers
  have C_law_common := ok_law_common (P := P) (w := w) (base := base) F_law_common gl_law_common bi
  have C_law_frac := ok_law_frac (P := P) (w := w) (base := base) F_law_frac gl_law_frac C_law_common
  have C_law_place := ok_law_place (P := P) (w := w) (base := base) F_law_place gl_law_place bi C_law_frac
  have C_law_less := ok_law_less (P := P) (w := w) (base := base) F_law_less gl_law_less
  have C_law_loads := ok_law_loads (P := P) (w := w) (base := base) F_law_loads gl_law_loads bi C_law_cell C_law_numbers C_law_place C_law_less
  have C_law_times := ok_law_times (P := P) (w := w) (base := base) F_law_times gl_law_times C_law_frac
  have C_law_plus := ok_law_plus (P := P) (w := w) (base := base) F_law_plus gl_law_plus C_law_frac
  have C_law_middle := ok_law_middle (P := P) (w := w) (base := base) F_law_middle gl_law_middle C_law_plus C_law_times
  have C_law_minus := ok_law_minus (P := P) (w := w) (base := base) F_law_minus gl_law_minus C_law_frac
  have C_law_over := ok_law_over (P := P) (w := w) (base := base) F_law_over gl_law_over C_law_frac
  have C_fraction := ok_fraction (P := P) (w := w) (base := base) F_fraction gl_fraction gb_gcd
  have C_minus := ok_minus (P := P) (w := w) (base := base) F_minus gl_minus C_fraction
  have C_span_count := ok_span_count (P := P) (w := w) (base := base) F_span_count gl_span_count bi
  have C_is_less := ok_is_less (P := P) (w := w) (base := base) F_is_less gl_is_less
  have C_whole := ok_whole (P := P) (w := w) (base := base) F_whole gl_whole
  have C_span_ends := ok_span_ends (P := P) (w := w) (base := base) F_span_ends gl_span_ends C_whole
  have C_span_of := ok_span_of (P := P) (w := w) (base := base) F_span_of gl_span_of bi C_span_count C_span_ends C_is_less
  have C_plus := ok_plus (P := P) (w := w) (base := base) F_plus gl_plus C_fraction
  have C_times := ok_times (P := P) (w := w) (base := base) F_times gl_times C_fraction
  have C_slope := ok_slope (P := P) (w := w) (base := base) F_slope gl_slope C_fraction
  have C_chord := ok_chord (P := P) (w := w) (base := base) F_chord gl_chord C_span_of C_whole C_minus C_slope C_times C_plus
  have C_over := ok_over (P := P) (w := w) (base := base) F_over gl_over C_fraction
  have C_lesser := ok_lesser (P := P) (w := w) (base := base) F_lesser gl_lesser C_is_less
  have C_greater := ok_greater (P := P) (w := w) (base := base) F_greater gl_greater C_is_less
  have C_load_moment := ok_load_moment (P := P) (w := w) (base := base) F_load_moment gl_load_moment C_lesser C_minus C_greater C_times C_whole C_over
  have C_sum_of := ok_sum_of (P := P) (w := w) (base := base) F_sum_of gl_sum_of gi_ZERO C_plus
  have C_rope_moment := ok_rope_moment (P := P) (w := w) (base := base) F_rope_moment gl_rope_moment C_minus C_times C_fraction
  have C_loads_in := ok_loads_in (P := P) (w := w) (base := base) F_loads_in gl_loads_in C_span_ends C_is_less
  have C_span_moment := ok_span_moment (P := P) (w := w) (base := base) F_span_moment gl_span_moment C_span_ends C_loads_in C_load_moment C_rope_moment C_sum_of C_plus
  have C_moment := ok_moment (P := P) (w := w) (base := base) F_moment gl_moment C_span_of C_span_moment
  have C_height := ok_height (P := P) (w := w) (base := base) F_height gl_height C_moment C_over C_chord C_minus
  have C_law_bare := ok_law_bare (P := P) (w := w) (base := base) F_law_bare gl_law_bare C_height C_law_times C_law_frac C_law_over C_law_minus
  have C_law_slope_between := ok_law_slope_between (P := P) (w := w) (base := base) F_law_slope_between gl_law_slope_between C_law_bare C_law_minus C_law_over
  have C_share_ahead := ok_share_ahead (P := P) (w := w) (base := base) F_share_ahead gl_share_ahead C_span_ends C_loads_in C_minus C_whole C_times C_over C_fraction C_sum_of C_plus
  have C_share_behind := ok_share_behind (P := P) (w := w) (base := base) F_share_behind gl_share_behind C_span_ends C_loads_in C_minus C_whole C_times C_over C_fraction C_sum_of C_plus
  have C_burden := ok_burden (P := P) (w := w) (base := base) F_burden gl_burden C_whole C_sum_of C_share_ahead C_plus C_span_count C_share_behind
  have C_kink := ok_kink (P := P) (w := w) (base := base) F_kink gl_kink gi_ZERO C_slope C_span_count C_minus
  have C_press := ok_press (P := P) (w := w) (base := base) F_press gl_press C_kink C_times C_burden C_plus
  exact (ok_law (P := P) (w := w) (base := base) F_law bi C_law_line C_law_loads C_law_cell C_law_numbers C_law_frac C_height C_law_less C_law_middle C_law_slope_between C_law_minus C_law_over C_law_place C_moment C_law_plus C_press).ok
end Law
end
section
set_option Elab.async false
set_option linter.all false
set_option maxRecDepth 100000
set_option maxHeartbeats 2000000
set_option autoImplicit false
open PySem PV
namespace Law
/-! fractions -/
theorem frac_pos {t b : Int} {n : Nat} (hb : 0 < b) (h1 : t.natAbs < 2 ^ n) (h2 : b.natAbs < 2 ^ n) (hn : n < 9000) :
    divOk ((Nat.gcd t.natAbs b.natAbs : Nat) : Int) ∧ (0 : Int) < ((Nat.gcd t.natAbs b.natAbs : Nat) : Int) := by
  have g0 : 0 < Nat.gcd t.natAbs b.natAbs := Nat.gcd_pos_of_pos_right _ (by omega)
  have g1 : Nat.gcd t.natAbs b.natAbs ≤ b.natAbs := Nat.gcd_le_right _ (by omega)
  exact ⟨divOk_sz (by omega) (by rw [Int.natAbs_natCast]; exact Nat.lt_of_le_of_lt g1 h2) hn, by omega⟩
theorem fraction_ok {t b : Int} {n : Nat} (hb : b ≠ 0) (h1 : t.natAbs < 2 ^ n) (h2 : b.natAbs < 2 ^ n) (hn : n < 9000) : m_fraction [.int t, .int b] = .ok (qd (Rat.divInt t b)) := by
  have h2s : 2 ≤ sizeLine := by rw [line_eq]; omega
  unfold m_fraction b_fraction
  rw [fn_go (n := 2) rfl]
  have e : startE 3 [.int t, .int b] = [some (.val (.int t)), some (.val (.int b)), none] := rfl
  rw [e]
  by_cases h : b < 0
  · obtain ⟨d1, d2⟩ := frac_pos (t := -t) (b := -b) (n := n) (by omega) (by rw [Int.natAbs_neg]; exact h1) (by rw [Int.natAbs_neg]; exact h2) hn
    obtain ⟨e1, e2⟩ := divInt_parts (t := -t) (b := -b) (by omega)
    rw [← divInt_flip t b hb]
    simp (disch := omega) only [h, d1, h2s, bind_ok, bind_bad, bind_exc, at_ok, at_exc, ofO_some, oS_some, nox_okk, g_v, g_s, go_v, go_s, ga_v, ga_o, ga_s, s_z, s_s, fz_o, fz_v, fz_s, e_mGet, e_mC, e_m2, e_m1, e_mT, e_mB, e_mAndB, e_mOrB, e_mNotB, e_mAnd, e_mOr, e_mIf, e_mChain, e_mNil, e_mCons, e_mSeq, e_mCall, e_mNo, e_mPart, e_mCut, e_mIs, e_mIs2, e_mL, e_mDsp, e_mRep, e_mBind, e_mIxO, e_mBor, e_mBorB, e_mItems, e_mWk, e_mRev, e_mYes, e_mLc, e_gN, e_gE, e_gC, e_gTt, e_gTl, e_sNx, e_sThen, e_sDrop, e_sRet, e_sSet, e_sIf, e_sFor, e_sAsg, e_sPar, e_sSetO, e_sSetL, e_ownAt, e_freeze, e_sApp, e_sSetIx, e_sAugIx, e_sAug, e_sPop, e_sPopTo, e_fnM, e_bo_rt, e_bo_nx, e_bo_exc, e_startE, e_wipe0, e_wipe1, d_add, d_addib, d_addl, d_addt, d_sub, d_mul, d_mulS, d_div, d_mod, d_pow, d_cmp, d_neg, d_not, d_iadd, d_iop, d_toB, d_toI, d_trB, d_trI, d_trN, d_trL, d_trT, d_lenL, d_lenT, d_intI, d_intB, d_abs, d_gcd, d_max2, d_min2, d_sumI, d_anyB, d_allB, d_maxL, d_minL, d_listL, d_listT, d_tupL, d_tupT, d_idxL, d_idxT, d_lstL, d_lstT, d_revL, d_itL, d_itT, d_rng1, d_rng2, d_rng3, d_enum1, d_zip2, d_rev1L, d_rev1T, d_cutL, d_cutT, d_rep, d_mTup, d_mLst, d_setD, d_scN, d_scB, d_scI, d_scS, d_isN, d_isNN, d_isB, d_isNB, d_nN, d_nB, d_nI, d_nS, d_nL, d_nT, if_true, if_false, ite_true, ite_false, reduceIte, List.length_cons, List.length_nil, Nat.zero_add, Nat.reduceAdd, Nat.reduceSub, Nat.reduceEqDiff, List.map_cons, List.map_nil, List.cons_append, List.nil_append, List.replicate, Option.map_some, Option.bind_some, Option.some.injEq, Bool.not_true, Bool.not_false, ne_eq, Bool.false_eq_true, Int.reduceEq, Int.reduceLT, Int.reduceLE, Int.reduceNeg, Int.reduceAdd, Int.reduceSub, Int.reduceMul, Int.reduceToNat, Int.toNat_natCast, Nat.reduceLT, Nat.reduceLeDiff, not_false_eq_true, not_true_eq_false, decide_true, decide_false, List.length_map, List.map_append, fmod_pos, fdiv_pos, and_true, true_and, and_self, Bool.and_true, Bool.or_false, Bool.and_false, Bool.or_true, Bool.true_and, Bool.false_and, ty_li_none, ty_li_bool, ty_li_int, ty_li_str, ty_li_list, ty_li_tuple, ty_tu_none, ty_tu_bool, ty_tu_int, ty_tu_str, ty_tu_list, ty_tu_tuple, ty_bo_none, ty_bo_bool, ty_bo_int, ty_bo_str, ty_bo_list, ty_bo_tuple, ty_in_none, ty_in_bool, ty_in_int, ty_in_str, ty_in_list, ty_in_tuple, ty_st_none, ty_st_bool, ty_st_int, ty_st_str, ty_st_list, ty_st_tuple, eq_int, ne_int, eq_bl, ne_bl, eq_st, ne_st, eq_li, ne_li, at_0, at_1, at_2, at_3, at_4, at_5, in_li, notin_li, c_z, c_s, gx_v, gx_s, e_mIsX, e_sTry, tc_ok, tc_exc, cm_nil, cm_cons, ex_ok, dx_nil, dx_v, dx_o, dx_x, dx_n, at_exx, Int.cast_ofNat_Int, e_mLrg1, e_mLrg2, d_lrg, e_mCat]
    rw [← e1, ← e2]
  · obtain ⟨d1, d2⟩ := frac_pos (t := t) (b := b) (n := n) (by omega) h1 h2 hn
    obtain ⟨e1, e2⟩ := divInt_parts (t := t) (b := b) (by omega)
    simp (disch := omega) only [h, d1, h2s, bind_ok, bind_bad, bind_exc, at_ok, at_exc, ofO_some, oS_some, nox_okk, g_v, g_s, go_v, go_s, ga_v, ga_o, ga_s, s_z, s_s, fz_o, fz_v, fz_s, e_mGet, e_mC, e_m2, e_m1, e_mT, e_mB, e_mAndB, e_mOrB, e_mNotB, e_mAnd, e_mOr, e_mIf, e_mChain, e_mNil, e_mCons, e_mSeq, e_mCall, e_mNo, e_mPart, e_mCut, e_mIs, e_mIs2, e_mL, e_mDsp, e_mRep, e_mBind, e_mIxO, e_mBor, e_mBorB, e_mItems, e_mWk, e_mRev, e_mYes, e_mLc, e_gN, e_gE, e_gC, e_gTt, e_gTl, e_sNx, e_sThen, e_sDrop, e_sRet, e_sSet, e_sIf, e_sFor, e_sAsg, e_sPar, e_sSetO, e_sSetL, e_ownAt, e_freeze, e_sApp, e_sSetIx, e_sAugIx, e_sAug, e_sPop, e_sPopTo, e_fnM, e_bo_rt, e_bo_nx, e_bo_exc, e_startE, e_wipe0, e_wipe1, d_add, d_addib, d_addl, d_addt, d_sub, d_mul, d_mulS, d_div, d_mod, d_pow, d_cmp, d_neg, d_not, d_iadd, d_iop, d_toB, d_toI, d_trB, d_trI, d_trN, d_trL, d_trT, d_lenL, d_lenT, d_intI, d_intB, d_abs, d_gcd, d_max2, d_min2, d_sumI, d_anyB, d_allB, d_maxL, d_minL, d_listL, d_listT, d_tupL, d_tupT, d_idxL, d_idxT, d_lstL, d_lstT, d_revL, d_itL, d_itT, d_rng1, d_rng2, d_rng3, d_enum1, d_zip2, d_rev1L, d_rev1T, d_cutL, d_cutT, d_rep, d_mTup, d_mLst, d_setD, d_scN, d_scB, d_scI, d_scS, d_isN, d_isNN, d_isB, d_isNB, d_nN, d_nB, d_nI, d_nS, d_nL, d_nT, if_true, if_false, ite_true, ite_false, reduceIte, List.length_cons, List.length_nil, Nat.zero_add, Nat.reduceAdd, Nat.reduceSub, Nat.reduceEqDiff, List.map_cons, List.map_nil, List.cons_append, List.nil_append, List.replicate, Option.map_some, Option.bind_some, Option.some.injEq, Bool.not_true, Bool.not_false, ne_eq, Bool.false_eq_true, Int.reduceEq, Int.reduceLT, Int.reduceLE, Int.reduceNeg, Int.reduceAdd, Int.reduceSub, Int.reduceMul, Int.reduceToNat, Int.toNat_natCast, Nat.reduceLT, Nat.reduceLeDiff, not_false_eq_true, not_true_eq_false, decide_true, decide_false, List.length_map, List.map_append, fmod_pos, fdiv_pos, and_true, true_and, and_self, Bool.and_true, Bool.or_false, Bool.and_false, Bool.or_true, Bool.true_and, Bool.false_and, ty_li_none, ty_li_bool, ty_li_int, ty_li_str, ty_li_list, ty_li_tuple, ty_tu_none, ty_tu_bool, ty_tu_int, ty_tu_str, ty_tu_list, ty_tu_tuple, ty_bo_none, ty_bo_bool, ty_bo_int, ty_bo_str, ty_bo_list, ty_bo_tuple, ty_in_none, ty_in_bool, ty_in_int, ty_in_str, ty_in_list, ty_in_tuple, ty_st_none, ty_st_bool, ty_st_int, ty_st_str, ty_st_list, ty_st_tuple, eq_int, ne_int, eq_bl, ne_bl, eq_st, ne_st, eq_li, ne_li, at_0, at_1, at_2, at_3, at_4, at_5, in_li, notin_li, c_z, c_s, gx_v, gx_s, e_mIsX, e_sTry, tc_ok, tc_exc, cm_nil, cm_cons, ex_ok, dx_nil, dx_v, dx_o, dx_x, dx_n, at_exx, Int.cast_ofNat_Int, e_mLrg1, e_mLrg2, d_lrg, e_mCat]
    rw [← e1, ← e2]
theorem cross_sz {n : Nat} {p q : Rat} (hp : Sz n p) (hq : Sz n q) : (p.num * (q.den : Int)).natAbs < 2 ^ (n + n) := mul_sz hp.1 hq.dn
theorem dens_sz {n : Nat} {p q : Rat} (hp : Sz n p) (hq : Sz n q) : ((p.den : Int) * (q.den : Int)).natAbs < 2 ^ (n + n + 1) := Nat.lt_of_lt_of_le (mul_sz hp.dn hq.dn) (pow_le_pow2 (by omega))
theorem dens_ne (p q : Rat) : (p.den : Int) * (q.den : Int) ≠ 0 := Int.mul_ne_zero (by have := den_pos p; omega) (by have := den_pos q; omega)
theorem add_Sz {n : Nat} {p q : Rat} (hp : Sz n p) (hq : Sz n q) : Sz (n + n + 1) (p + q) := by
  rw [← add_eq]
  exact divInt_sz (dens_ne p q) (add_sz (cross_sz hp hq) (cross_sz hq hp)) (dens_sz hp hq)
theorem mul_Sz {n : Nat} {p q : Rat} (hp : Sz n p) (hq : Sz n q) : Sz (n + n + 1) (p * q) := by
  rw [← mul_eq]
  exact divInt_sz (dens_ne p q) (Nat.lt_of_lt_of_le (mul_sz hp.1 hq.1) (pow_le_pow2 (by omega))) (dens_sz hp hq)
theorem over_Sz {n : Nat} {p q : Rat} (hp : Sz n p) (hq : Sz n q) (h0 : q.num ≠ 0) : Sz (n + n + 1) (Rat.divInt (p.num * q.den) (p.den * q.num)) :=
  divInt_sz (Int.mul_ne_zero (by have := den_pos p; omega) h0) (Nat.lt_of_lt_of_le (cross_sz hp hq) (pow_le_pow2 (by omega))) (Nat.lt_of_lt_of_le (mul_sz hp.dn hq.1) (pow_le_pow2 (by omega)))
section
variable {n : Nat} {p q : Rat} (hp : Sz n p) (hq : Sz n q) (hn : n < 4000)
include hp hq hn
theorem plus_ok : m_plus [qd p, qd q] = .ok (qd (p + q)) := by
  have m1 : mulOk p.num (q.den : Int) := mulOk_sz hp.1 hq.dn (by omega)
  have m2 : mulOk q.num (p.den : Int) := mulOk_sz hq.1 hp.dn (by omega)
  have m3 : mulOk (p.den : Int) (q.den : Int) := mulOk_sz hp.dn hq.dn (by omega)
  have hf := fraction_ok (dens_ne p q) (add_sz (cross_sz hp hq) (cross_sz hq hp)) (dens_sz hp hq) (by omega)
  rw [add_eq] at hf
  unfold m_plus b_plus
  rw [fn_go (n := 2) rfl]
  change bodyOut (sRet _ [some (.val (qd p)), some (.val (qd q))]) = _
  simp (disch := omega) only [m1, m2, m3, hf, bind_ok, bind_bad, bind_exc, at_ok, at_exc, ofO_some, oS_some, nox_okk, g_v, g_s, go_v, go_s, ga_v, ga_o, ga_s, s_z, s_s, fz_o, fz_v, fz_s, e_mGet, e_mC, e_m2, e_m1, e_mT, e_mB, e_mAndB, e_mOrB, e_mNotB, e_mAnd, e_mOr, e_mIf, e_mChain, e_mNil, e_mCons, e_mSeq, e_mCall, e_mNo, e_mPart, e_mCut, e_mIs, e_mIs2, e_mL, e_mDsp, e_mRep, e_mBind, e_mIxO, e_mBor, e_mBorB, e_mItems, e_mWk, e_mRev, e_mYes, e_mLc, e_gN, e_gE, e_gC, e_gTt, e_gTl, e_sNx, e_sThen, e_sDrop, e_sRet, e_sSet, e_sIf, e_sFor, e_sAsg, e_sPar, e_sSetO, e_sSetL, e_ownAt, e_freeze, e_sApp, e_sSetIx, e_sAugIx, e_sAug, e_sPop, e_sPopTo, e_fnM, e_bo_rt, e_bo_nx, e_bo_exc, e_startE, e_wipe0, e_wipe1, d_add, d_addib, d_addl, d_addt, d_sub, d_mul, d_mulS, d_div, d_mod, d_pow, d_cmp, d_neg, d_not, d_iadd, d_iop, d_toB, d_toI, d_trB, d_trI, d_trN, d_trL, d_trT, d_lenL, d_lenT, d_intI, d_intB, d_abs, d_gcd, d_max2, d_min2, d_sumI, d_anyB, d_allB, d_maxL, d_minL, d_listL, d_listT, d_tupL, d_tupT, d_idxL, d_idxT, d_lstL, d_lstT, d_revL, d_itL, d_itT, d_rng1, d_rng2, d_rng3, d_enum1, d_zip2, d_rev1L, d_rev1T, d_cutL, d_cutT, d_rep, d_mTup, d_mLst, d_setD, d_scN, d_scB, d_scI, d_scS, d_isN, d_isNN, d_isB, d_isNB, d_nN, d_nB, d_nI, d_nS, d_nL, d_nT, if_true, if_false, ite_true, ite_false, reduceIte, List.length_cons, List.length_nil, Nat.zero_add, Nat.reduceAdd, Nat.reduceSub, Nat.reduceEqDiff, List.map_cons, List.map_nil, List.cons_append, List.nil_append, List.replicate, Option.map_some, Option.bind_some, Option.some.injEq, Bool.not_true, Bool.not_false, ne_eq, Bool.false_eq_true, Int.reduceEq, Int.reduceLT, Int.reduceLE, Int.reduceNeg, Int.reduceAdd, Int.reduceSub, Int.reduceMul, Int.reduceToNat, Int.toNat_natCast, Nat.reduceLT, Nat.reduceLeDiff, not_false_eq_true, not_true_eq_false, decide_true, decide_false, List.length_map, List.map_append, fmod_pos, fdiv_pos, and_true, true_and, and_self, Bool.and_true, Bool.or_false, Bool.and_false, Bool.or_true, Bool.true_and, Bool.false_and, ty_li_none, ty_li_bool, ty_li_int, ty_li_str, ty_li_list, ty_li_tuple, ty_tu_none, ty_tu_bool, ty_tu_int, ty_tu_str, ty_tu_list, ty_tu_tuple, ty_bo_none, ty_bo_bool, ty_bo_int, ty_bo_str, ty_bo_list, ty_bo_tuple, ty_in_none, ty_in_bool, ty_in_int, ty_in_str, ty_in_list, ty_in_tuple, ty_st_none, ty_st_bool, ty_st_int, ty_st_str, ty_st_list, ty_st_tuple, eq_int, ne_int, eq_bl, ne_bl, eq_st, ne_st, eq_li, ne_li, at_0, at_1, at_2, at_3, at_4, at_5, in_li, notin_li, c_z, c_s, gx_v, gx_s, e_mIsX, e_sTry, tc_ok, tc_exc, cm_nil, cm_cons, ex_ok, dx_nil, dx_v, dx_o, dx_x, dx_n, at_exx, Int.cast_ofNat_Int, e_mLrg1, e_mLrg2, d_lrg, e_mCat]
theorem minus_ok : m_minus [qd p, qd q] = .ok (qd (p - q)) := by
  have m1 : mulOk p.num (q.den : Int) := mulOk_sz hp.1 hq.dn (by omega)
  have m2 : mulOk q.num (p.den : Int) := mulOk_sz hq.1 hp.dn (by omega)
  have m3 : mulOk (p.den : Int) (q.den : Int) := mulOk_sz hp.dn hq.dn (by omega)
  have hf := fraction_ok (dens_ne p q) (sub_sz (cross_sz hp hq) (cross_sz hq hp)) (dens_sz hp hq) (by omega)
  rw [sub_eq] at hf
  unfold m_minus b_minus
  rw [fn_go (n := 2) rfl]
  change bodyOut (sRet _ [some (.val (qd p)), some (.val (qd q))]) = _
  simp (disch := omega) only [m1, m2, m3, hf, bind_ok, bind_bad, bind_exc, at_ok, at_exc, ofO_some, oS_some, nox_okk, g_v, g_s, go_v, go_s, ga_v, ga_o, ga_s, s_z, s_s, fz_o, fz_v, fz_s, e_mGet, e_mC, e_m2, e_m1, e_mT, e_mB, e_mAndB, e_mOrB, e_mNotB, e_mAnd, e_mOr, e_mIf, e_mChain, e_mNil, e_mCons, e_mSeq, e_mCall, e_mNo, e_mPart, e_mCut, e_mIs, e_mIs2, e_mL, e_mDsp, e_mRep, e_mBind, e_mIxO, e_mBor, e_mBorB, e_mItems, e_mWk, e_mRev, e_mYes, e_mLc, e_gN, e_gE, e_gC, e_gTt, e_gTl, e_sNx, e_sThen, e_sDrop, e_sRet, e_sSet, e_sIf, e_sFor, e_sAsg, e_sPar, e_sSetO, e_sSetL, e_ownAt, e_freeze, e_sApp, e_sSetIx, e_sAugIx, e_sAug, e_sPop, e_sPopTo, e_fnM, e_bo_rt, e_bo_nx, e_bo_exc, e_startE, e_wipe0, e_wipe1, d_add, d_addib, d_addl, d_addt, d_sub, d_mul, d_mulS, d_div, d_mod, d_pow, d_cmp, d_neg, d_not, d_iadd, d_iop, d_toB, d_toI, d_trB, d_trI, d_trN, d_trL, d_trT, d_lenL, d_lenT, d_intI, d_intB, d_abs, d_gcd, d_max2, d_min2, d_sumI, d_anyB, d_allB, d_maxL, d_minL, d_listL, d_listT, d_tupL, d_tupT, d_idxL, d_idxT, d_lstL, d_lstT, d_revL, d_itL, d_itT, d_rng1, d_rng2, d_rng3, d_enum1, d_zip2, d_rev1L, d_rev1T, d_cutL, d_cutT, d_rep, d_mTup, d_mLst, d_setD, d_scN, d_scB, d_scI, d_scS, d_isN, d_isNN, d_isB, d_isNB, d_nN, d_nB, d_nI, d_nS, d_nL, d_nT, if_true, if_false, ite_true, ite_false, reduceIte, List.length_cons, List.length_nil, Nat.zero_add, Nat.reduceAdd, Nat.reduceSub, Nat.reduceEqDiff, List.map_cons, List.map_nil, List.cons_append, List.nil_append, List.replicate, Option.map_some, Option.bind_some, Option.some.injEq, Bool.not_true, Bool.not_false, ne_eq, Bool.false_eq_true, Int.reduceEq, Int.reduceLT, Int.reduceLE, Int.reduceNeg, Int.reduceAdd, Int.reduceSub, Int.reduceMul, Int.reduceToNat, Int.toNat_natCast, Nat.reduceLT, Nat.reduceLeDiff, not_false_eq_true, not_true_eq_false, decide_true, decide_false, List.length_map, List.map_append, fmod_pos, fdiv_pos, and_true, true_and, and_self, Bool.and_true, Bool.or_false, Bool.and_false, Bool.or_true, Bool.true_and, Bool.false_and, ty_li_none, ty_li_bool, ty_li_int, ty_li_str, ty_li_list, ty_li_tuple, ty_tu_none, ty_tu_bool, ty_tu_int, ty_tu_str, ty_tu_list, ty_tu_tuple, ty_bo_none, ty_bo_bool, ty_bo_int, ty_bo_str, ty_bo_list, ty_bo_tuple, ty_in_none, ty_in_bool, ty_in_int, ty_in_str, ty_in_list, ty_in_tuple, ty_st_none, ty_st_bool, ty_st_int, ty_st_str, ty_st_list, ty_st_tuple, eq_int, ne_int, eq_bl, ne_bl, eq_st, ne_st, eq_li, ne_li, at_0, at_1, at_2, at_3, at_4, at_5, in_li, notin_li, c_z, c_s, gx_v, gx_s, e_mIsX, e_sTry, tc_ok, tc_exc, cm_nil, cm_cons, ex_ok, dx_nil, dx_v, dx_o, dx_x, dx_n, at_exx, Int.cast_ofNat_Int, e_mLrg1, e_mLrg2, d_lrg, e_mCat]
theorem times_ok : m_times [qd p, qd q] = .ok (qd (p * q)) := by
  have m1 : mulOk p.num q.num := mulOk_sz hp.1 hq.1 (by omega)
  have m3 : mulOk (p.den : Int) (q.den : Int) := mulOk_sz hp.dn hq.dn (by omega)
  have hf := fraction_ok (n := n + n + 1) (dens_ne p q) (Nat.lt_of_lt_of_le (mul_sz hp.1 hq.1) (pow_le_pow2 (by omega))) (dens_sz hp hq) (by omega)
  rw [mul_eq] at hf
  unfold m_times b_times
  rw [fn_go (n := 2) rfl]
  change bodyOut (sRet _ [some (.val (qd p)), some (.val (qd q))]) = _
  simp (disch := omega) only [m1, m3, hf, bind_ok, bind_bad, bind_exc, at_ok, at_exc, ofO_some, oS_some, nox_okk, g_v, g_s, go_v, go_s, ga_v, ga_o, ga_s, s_z, s_s, fz_o, fz_v, fz_s, e_mGet, e_mC, e_m2, e_m1, e_mT, e_mB, e_mAndB, e_mOrB, e_mNotB, e_mAnd, e_mOr, e_mIf, e_mChain, e_mNil, e_mCons, e_mSeq, e_mCall, e_mNo, e_mPart, e_mCut, e_mIs, e_mIs2, e_mL, e_mDsp, e_mRep, e_mBind, e_mIxO, e_mBor, e_mBorB, e_mItems, e_mWk, e_mRev, e_mYes, e_mLc, e_gN, e_gE, e_gC, e_gTt, e_gTl, e_sNx, e_sThen, e_sDrop, e_sRet, e_sSet, e_sIf, e_sFor, e_sAsg, e_sPar, e_sSetO, e_sSetL, e_ownAt, e_freeze, e_sApp, e_sSetIx, e_sAugIx, e_sAug, e_sPop, e_sPopTo, e_fnM, e_bo_rt, e_bo_nx, e_bo_exc, e_startE, e_wipe0, e_wipe1, d_add, d_addib, d_addl, d_addt, d_sub, d_mul, d_mulS, d_div, d_mod, d_pow, d_cmp, d_neg, d_not, d_iadd, d_iop, d_toB, d_toI, d_trB, d_trI, d_trN, d_trL, d_trT, d_lenL, d_lenT, d_intI, d_intB, d_abs, d_gcd, d_max2, d_min2, d_sumI, d_anyB, d_allB, d_maxL, d_minL, d_listL, d_listT, d_tupL, d_tupT, d_idxL, d_idxT, d_lstL, d_lstT, d_revL, d_itL, d_itT, d_rng1, d_rng2, d_rng3, d_enum1, d_zip2, d_rev1L, d_rev1T, d_cutL, d_cutT, d_rep, d_mTup, d_mLst, d_setD, d_scN, d_scB, d_scI, d_scS, d_isN, d_isNN, d_isB, d_isNB, d_nN, d_nB, d_nI, d_nS, d_nL, d_nT, if_true, if_false, ite_true, ite_false, reduceIte, List.length_cons, List.length_nil, Nat.zero_add, Nat.reduceAdd, Nat.reduceSub, Nat.reduceEqDiff, List.map_cons, List.map_nil, List.cons_append, List.nil_append, List.replicate, Option.map_some, Option.bind_some, Option.some.injEq, Bool.not_true, Bool.not_false, ne_eq, Bool.false_eq_true, Int.reduceEq, Int.reduceLT, Int.reduceLE, Int.reduceNeg, Int.reduceAdd, Int.reduceSub, Int.reduceMul, Int.reduceToNat, Int.toNat_natCast, Nat.reduceLT, Nat.reduceLeDiff, not_false_eq_true, not_true_eq_false, decide_true, decide_false, List.length_map, List.map_append, fmod_pos, fdiv_pos, and_true, true_and, and_self, Bool.and_true, Bool.or_false, Bool.and_false, Bool.or_true, Bool.true_and, Bool.false_and, ty_li_none, ty_li_bool, ty_li_int, ty_li_str, ty_li_list, ty_li_tuple, ty_tu_none, ty_tu_bool, ty_tu_int, ty_tu_str, ty_tu_list, ty_tu_tuple, ty_bo_none, ty_bo_bool, ty_bo_int, ty_bo_str, ty_bo_list, ty_bo_tuple, ty_in_none, ty_in_bool, ty_in_int, ty_in_str, ty_in_list, ty_in_tuple, ty_st_none, ty_st_bool, ty_st_int, ty_st_str, ty_st_list, ty_st_tuple, eq_int, ne_int, eq_bl, ne_bl, eq_st, ne_st, eq_li, ne_li, at_0, at_1, at_2, at_3, at_4, at_5, in_li, notin_li, c_z, c_s, gx_v, gx_s, e_mIsX, e_sTry, tc_ok, tc_exc, cm_nil, cm_cons, ex_ok, dx_nil, dx_v, dx_o, dx_x, dx_n, at_exx, Int.cast_ofNat_Int, e_mLrg1, e_mLrg2, d_lrg, e_mCat]
theorem over_ok (h0 : q.num ≠ 0) : m_over [qd p, qd q] = .ok (qd (Rat.divInt (p.num * q.den) (p.den * q.num))) := by
  have m1 : mulOk p.num (q.den : Int) := mulOk_sz hp.1 hq.dn (by omega)
  have m3 : mulOk (p.den : Int) q.num := mulOk_sz hp.dn hq.1 (by omega)
  have hf := fraction_ok (n := n + n + 1) (Int.mul_ne_zero (by have := den_pos p; omega) h0) (Nat.lt_of_lt_of_le (cross_sz hp hq) (pow_le_pow2 (by omega))) (Nat.lt_of_lt_of_le (mul_sz hp.dn hq.1) (pow_le_pow2 (by omega))) (by omega)
  unfold m_over b_over
  rw [fn_go (n := 2) rfl]
  change bodyOut (sThen _ _ [some (.val (qd p)), some (.val (qd q))]) = _
  simp (disch := omega) only [h0, m1, m3, hf, bind_ok, bind_bad, bind_exc, at_ok, at_exc, ofO_some, oS_some, nox_okk, g_v, g_s, go_v, go_s, ga_v, ga_o, ga_s, s_z, s_s, fz_o, fz_v, fz_s, e_mGet, e_mC, e_m2, e_m1, e_mT, e_mB, e_mAndB, e_mOrB, e_mNotB, e_mAnd, e_mOr, e_mIf, e_mChain, e_mNil, e_mCons, e_mSeq, e_mCall, e_mNo, e_mPart, e_mCut, e_mIs, e_mIs2, e_mL, e_mDsp, e_mRep, e_mBind, e_mIxO, e_mBor, e_mBorB, e_mItems, e_mWk, e_mRev, e_mYes, e_mLc, e_gN, e_gE, e_gC, e_gTt, e_gTl, e_sNx, e_sThen, e_sDrop, e_sRet, e_sSet, e_sIf, e_sFor, e_sAsg, e_sPar, e_sSetO, e_sSetL, e_ownAt, e_freeze, e_sApp, e_sSetIx, e_sAugIx, e_sAug, e_sPop, e_sPopTo, e_fnM, e_bo_rt, e_bo_nx, e_bo_exc, e_startE, e_wipe0, e_wipe1, d_add, d_addib, d_addl, d_addt, d_sub, d_mul, d_mulS, d_div, d_mod, d_pow, d_cmp, d_neg, d_not, d_iadd, d_iop, d_toB, d_toI, d_trB, d_trI, d_trN, d_trL, d_trT, d_lenL, d_lenT, d_intI, d_intB, d_abs, d_gcd, d_max2, d_min2, d_sumI, d_anyB, d_allB, d_maxL, d_minL, d_listL, d_listT, d_tupL, d_tupT, d_idxL, d_idxT, d_lstL, d_lstT, d_revL, d_itL, d_itT, d_rng1, d_rng2, d_rng3, d_enum1, d_zip2, d_rev1L, d_rev1T, d_cutL, d_cutT, d_rep, d_mTup, d_mLst, d_setD, d_scN, d_scB, d_scI, d_scS, d_isN, d_isNN, d_isB, d_isNB, d_nN, d_nB, d_nI, d_nS, d_nL, d_nT, if_true, if_false, ite_true, ite_false, reduceIte, List.length_cons, List.length_nil, Nat.zero_add, Nat.reduceAdd, Nat.reduceSub, Nat.reduceEqDiff, List.map_cons, List.map_nil, List.cons_append, List.nil_append, List.replicate, Option.map_some, Option.bind_some, Option.some.injEq, Bool.not_true, Bool.not_false, ne_eq, Bool.false_eq_true, Int.reduceEq, Int.reduceLT, Int.reduceLE, Int.reduceNeg, Int.reduceAdd, Int.reduceSub, Int.reduceMul, Int.reduceToNat, Int.toNat_natCast, Nat.reduceLT, Nat.reduceLeDiff, not_false_eq_true, not_true_eq_false, decide_true, decide_false, List.length_map, List.map_append, fmod_pos, fdiv_pos, and_true, true_and, and_self, Bool.and_true, Bool.or_false, Bool.and_false, Bool.or_true, Bool.true_and, Bool.false_and, ty_li_none, ty_li_bool, ty_li_int, ty_li_str, ty_li_list, ty_li_tuple, ty_tu_none, ty_tu_bool, ty_tu_int, ty_tu_str, ty_tu_list, ty_tu_tuple, ty_bo_none, ty_bo_bool, ty_bo_int, ty_bo_str, ty_bo_list, ty_bo_tuple, ty_in_none, ty_in_bool, ty_in_int, ty_in_str, ty_in_list, ty_in_tuple, ty_st_none, ty_st_bool, ty_st_int, ty_st_str, ty_st_list, ty_st_tuple, eq_int, ne_int, eq_bl, ne_bl, eq_st, ne_st, eq_li, ne_li, at_0, at_1, at_2, at_3, at_4, at_5, in_li, notin_li, c_z, c_s, gx_v, gx_s, e_mIsX, e_sTry, tc_ok, tc_exc, cm_nil, cm_cons, ex_ok, dx_nil, dx_v, dx_o, dx_x, dx_n, at_exx, Int.cast_ofNat_Int, e_mLrg1, e_mLrg2, d_lrg, e_mCat]
theorem is_less_ok : m_is_less [qd p, qd q] = .ok (.bool (decide (p.num * q.den < q.num * p.den))) := by
  have m1 : mulOk p.num (q.den : Int) := mulOk_sz hp.1 hq.dn (by omega)
  have m2 : mulOk q.num (p.den : Int) := mulOk_sz hq.1 hp.dn (by omega)
  unfold m_is_less b_is_less
  rw [fn_go (n := 2) rfl]
  change bodyOut (sRet _ [some (.val (qd p)), some (.val (qd q))]) = _
  simp (disch := omega) only [m1, m2, bind_ok, bind_bad, bind_exc, at_ok, at_exc, ofO_some, oS_some, nox_okk, g_v, g_s, go_v, go_s, ga_v, ga_o, ga_s, s_z, s_s, fz_o, fz_v, fz_s, e_mGet, e_mC, e_m2, e_m1, e_mT, e_mB, e_mAndB, e_mOrB, e_mNotB, e_mAnd, e_mOr, e_mIf, e_mChain, e_mNil, e_mCons, e_mSeq, e_mCall, e_mNo, e_mPart, e_mCut, e_mIs, e_mIs2, e_mL, e_mDsp, e_mRep, e_mBind, e_mIxO, e_mBor, e_mBorB, e_mItems, e_mWk, e_mRev, e_mYes, e_mLc, e_gN, e_gE, e_gC, e_gTt, e_gTl, e_sNx, e_sThen, e_sDrop, e_sRet, e_sSet, e_sIf, e_sFor, e_sAsg, e_sPar, e_sSetO, e_sSetL, e_ownAt, e_freeze, e_sApp, e_sSetIx, e_sAugIx, e_sAug, e_sPop, e_sPopTo, e_fnM, e_bo_rt, e_bo_nx, e_bo_exc, e_startE, e_wipe0, e_wipe1, d_add, d_addib, d_addl, d_addt, d_sub, d_mul, d_mulS, d_div, d_mod, d_pow, d_cmp, d_neg, d_not, d_iadd, d_iop, d_toB, d_toI, d_trB, d_trI, d_trN, d_trL, d_trT, d_lenL, d_lenT, d_intI, d_intB, d_abs, d_gcd, d_max2, d_min2, d_sumI, d_anyB, d_allB, d_maxL, d_minL, d_listL, d_listT, d_tupL, d_tupT, d_idxL, d_idxT, d_lstL, d_lstT, d_revL, d_itL, d_itT, d_rng1, d_rng2, d_rng3, d_enum1, d_zip2, d_rev1L, d_rev1T, d_cutL, d_cutT, d_rep, d_mTup, d_mLst, d_setD, d_scN, d_scB, d_scI, d_scS, d_isN, d_isNN, d_isB, d_isNB, d_nN, d_nB, d_nI, d_nS, d_nL, d_nT, if_true, if_false, ite_true, ite_false, reduceIte, List.length_cons, List.length_nil, Nat.zero_add, Nat.reduceAdd, Nat.reduceSub, Nat.reduceEqDiff, List.map_cons, List.map_nil, List.cons_append, List.nil_append, List.replicate, Option.map_some, Option.bind_some, Option.some.injEq, Bool.not_true, Bool.not_false, ne_eq, Bool.false_eq_true, Int.reduceEq, Int.reduceLT, Int.reduceLE, Int.reduceNeg, Int.reduceAdd, Int.reduceSub, Int.reduceMul, Int.reduceToNat, Int.toNat_natCast, Nat.reduceLT, Nat.reduceLeDiff, not_false_eq_true, not_true_eq_false, decide_true, decide_false, List.length_map, List.map_append, fmod_pos, fdiv_pos, and_true, true_and, and_self, Bool.and_true, Bool.or_false, Bool.and_false, Bool.or_true, Bool.true_and, Bool.false_and, ty_li_none, ty_li_bool, ty_li_int, ty_li_str, ty_li_list, ty_li_tuple, ty_tu_none, ty_tu_bool, ty_tu_int, ty_tu_str, ty_tu_list, ty_tu_tuple, ty_bo_none, ty_bo_bool, ty_bo_int, ty_bo_str, ty_bo_list, ty_bo_tuple, ty_in_none, ty_in_bool, ty_in_int, ty_in_str, ty_in_list, ty_in_tuple, ty_st_none, ty_st_bool, ty_st_int, ty_st_str, ty_st_list, ty_st_tuple, eq_int, ne_int, eq_bl, ne_bl, eq_st, ne_st, eq_li, ne_li, at_0, at_1, at_2, at_3, at_4, at_5, in_li, notin_li, c_z, c_s, gx_v, gx_s, e_mIsX, e_sTry, tc_ok, tc_exc, cm_nil, cm_cons, ex_ok, dx_nil, dx_v, dx_o, dx_x, dx_n, at_exx, Int.cast_ofNat_Int, e_mLrg1, e_mLrg2, d_lrg, e_mCat]
end
/-! the law's own reckoning -/
theorem euclid (es : List PyData) : ∀ (j : Nat) (a b : Nat) (z : Option Cel), b < 2 ^ j → 2 * j + 1 ≤ es.length → ∃ ρ', PV.forM (gN 2) l_law_common_0 es [some (.val (.int a)), some (.val (.int b)), z] = .ok (.rt (.int ((Nat.gcd a b : Nat) : Int)), ρ') := by
  have stop : ∀ (d : PyData) (r : List PyData) (a : Nat) (z : Option Cel), ∃ ρ', PV.forM (gN 2) l_law_common_0 (d :: r) [some (.val (.int a)), some (.val (.int ((0 : Nat) : Int))), z] = .ok (.rt (.int a), ρ') := by
    intro d r a z
    refine ⟨[some (.val (.int a)), some (.val (.int ((0 : Nat) : Int))), some (.val d)], ?_⟩
    rw [forM_cons]
    unfold l_law_common_0
    simp (disch := omega) only [Int.natCast_zero, bind_ok, bind_bad, bind_exc, at_ok, at_exc, ofO_some, oS_some, nox_okk, g_v, g_s, go_v, go_s, ga_v, ga_o, ga_s, s_z, s_s, fz_o, fz_v, fz_s, e_mGet, e_mC, e_m2, e_m1, e_mT, e_mB, e_mAndB, e_mOrB, e_mNotB, e_mAnd, e_mOr, e_mIf, e_mChain, e_mNil, e_mCons, e_mSeq, e_mCall, e_mNo, e_mPart, e_mCut, e_mIs, e_mIs2, e_mL, e_mDsp, e_mRep, e_mBind, e_mIxO, e_mBor, e_mBorB, e_mItems, e_mWk, e_mRev, e_mYes, e_mLc, e_gN, e_gE, e_gC, e_gTt, e_gTl, e_sNx, e_sThen, e_sDrop, e_sRet, e_sSet, e_sIf, e_sFor, e_sAsg, e_sPar, e_sSetO, e_sSetL, e_ownAt, e_freeze, e_sApp, e_sSetIx, e_sAugIx, e_sAug, e_sPop, e_sPopTo, e_fnM, e_bo_rt, e_bo_nx, e_bo_exc, e_startE, e_wipe0, e_wipe1, d_add, d_addib, d_addl, d_addt, d_sub, d_mul, d_mulS, d_div, d_mod, d_pow, d_cmp, d_neg, d_not, d_iadd, d_iop, d_toB, d_toI, d_trB, d_trI, d_trN, d_trL, d_trT, d_lenL, d_lenT, d_intI, d_intB, d_abs, d_gcd, d_max2, d_min2, d_sumI, d_anyB, d_allB, d_maxL, d_minL, d_listL, d_listT, d_tupL, d_tupT, d_idxL, d_idxT, d_lstL, d_lstT, d_revL, d_itL, d_itT, d_rng1, d_rng2, d_rng3, d_enum1, d_zip2, d_rev1L, d_rev1T, d_cutL, d_cutT, d_rep, d_mTup, d_mLst, d_setD, d_scN, d_scB, d_scI, d_scS, d_isN, d_isNN, d_isB, d_isNB, d_nN, d_nB, d_nI, d_nS, d_nL, d_nT, if_true, if_false, ite_true, ite_false, reduceIte, List.length_cons, List.length_nil, Nat.zero_add, Nat.reduceAdd, Nat.reduceSub, Nat.reduceEqDiff, List.map_cons, List.map_nil, List.cons_append, List.nil_append, List.replicate, Option.map_some, Option.bind_some, Option.some.injEq, Bool.not_true, Bool.not_false, ne_eq, Bool.false_eq_true, Int.reduceEq, Int.reduceLT, Int.reduceLE, Int.reduceNeg, Int.reduceAdd, Int.reduceSub, Int.reduceMul, Int.reduceToNat, Int.toNat_natCast, Nat.reduceLT, Nat.reduceLeDiff, not_false_eq_true, not_true_eq_false, decide_true, decide_false, List.length_map, List.map_append, fmod_pos, fdiv_pos, and_true, true_and, and_self, Bool.and_true, Bool.or_false, Bool.and_false, Bool.or_true, Bool.true_and, Bool.false_and, ty_li_none, ty_li_bool, ty_li_int, ty_li_str, ty_li_list, ty_li_tuple, ty_tu_none, ty_tu_bool, ty_tu_int, ty_tu_str, ty_tu_list, ty_tu_tuple, ty_bo_none, ty_bo_bool, ty_bo_int, ty_bo_str, ty_bo_list, ty_bo_tuple, ty_in_none, ty_in_bool, ty_in_int, ty_in_str, ty_in_list, ty_in_tuple, ty_st_none, ty_st_bool, ty_st_int, ty_st_str, ty_st_list, ty_st_tuple, eq_int, ne_int, eq_bl, ne_bl, eq_st, ne_st, eq_li, ne_li, at_0, at_1, at_2, at_3, at_4, at_5, in_li, notin_li, c_z, c_s, gx_v, gx_s, e_mIsX, e_sTry, tc_ok, tc_exc, cm_nil, cm_cons, ex_ok, dx_nil, dx_v, dx_o, dx_x, dx_n, at_exx, Int.cast_ofNat_Int, e_mLrg1, e_mLrg2, d_lrg, e_mCat]
  have step : ∀ (d : PyData) (r : List PyData) (a b : Nat) (z : Option Cel), b ≠ 0 → PV.forM (gN 2) l_law_common_0 (d :: r) [some (.val (.int a)), some (.val (.int b)), z] = PV.forM (gN 2) l_law_common_0 r [some (.val (.int b)), some (.val (.int ((a % b : Nat) : Int))), some (.val d)] := by
    intro d r a b z hb
    have hb' : (b : Int) ≠ 0 := by omega
    rw [forM_cons]
    unfold l_law_common_0
    simp (disch := omega) only [hb', Int.natCast_emod, bind_ok, bind_bad, bind_exc, at_ok, at_exc, ofO_some, oS_some, nox_okk, g_v, g_s, go_v, go_s, ga_v, ga_o, ga_s, s_z, s_s, fz_o, fz_v, fz_s, e_mGet, e_mC, e_m2, e_m1, e_mT, e_mB, e_mAndB, e_mOrB, e_mNotB, e_mAnd, e_mOr, e_mIf, e_mChain, e_mNil, e_mCons, e_mSeq, e_mCall, e_mNo, e_mPart, e_mCut, e_mIs, e_mIs2, e_mL, e_mDsp, e_mRep, e_mBind, e_mIxO, e_mBor, e_mBorB, e_mItems, e_mWk, e_mRev, e_mYes, e_mLc, e_gN, e_gE, e_gC, e_gTt, e_gTl, e_sNx, e_sThen, e_sDrop, e_sRet, e_sSet, e_sIf, e_sFor, e_sAsg, e_sPar, e_sSetO, e_sSetL, e_ownAt, e_freeze, e_sApp, e_sSetIx, e_sAugIx, e_sAug, e_sPop, e_sPopTo, e_fnM, e_bo_rt, e_bo_nx, e_bo_exc, e_startE, e_wipe0, e_wipe1, d_add, d_addib, d_addl, d_addt, d_sub, d_mul, d_mulS, d_div, d_mod, d_pow, d_cmp, d_neg, d_not, d_iadd, d_iop, d_toB, d_toI, d_trB, d_trI, d_trN, d_trL, d_trT, d_lenL, d_lenT, d_intI, d_intB, d_abs, d_gcd, d_max2, d_min2, d_sumI, d_anyB, d_allB, d_maxL, d_minL, d_listL, d_listT, d_tupL, d_tupT, d_idxL, d_idxT, d_lstL, d_lstT, d_revL, d_itL, d_itT, d_rng1, d_rng2, d_rng3, d_enum1, d_zip2, d_rev1L, d_rev1T, d_cutL, d_cutT, d_rep, d_mTup, d_mLst, d_setD, d_scN, d_scB, d_scI, d_scS, d_isN, d_isNN, d_isB, d_isNB, d_nN, d_nB, d_nI, d_nS, d_nL, d_nT, if_true, if_false, ite_true, ite_false, reduceIte, List.length_cons, List.length_nil, Nat.zero_add, Nat.reduceAdd, Nat.reduceSub, Nat.reduceEqDiff, List.map_cons, List.map_nil, List.cons_append, List.nil_append, List.replicate, Option.map_some, Option.bind_some, Option.some.injEq, Bool.not_true, Bool.not_false, ne_eq, Bool.false_eq_true, Int.reduceEq, Int.reduceLT, Int.reduceLE, Int.reduceNeg, Int.reduceAdd, Int.reduceSub, Int.reduceMul, Int.reduceToNat, Int.toNat_natCast, Nat.reduceLT, Nat.reduceLeDiff, not_false_eq_true, not_true_eq_false, decide_true, decide_false, List.length_map, List.map_append, fmod_pos, fdiv_pos, and_true, true_and, and_self, Bool.and_true, Bool.or_false, Bool.and_false, Bool.or_true, Bool.true_and, Bool.false_and, ty_li_none, ty_li_bool, ty_li_int, ty_li_str, ty_li_list, ty_li_tuple, ty_tu_none, ty_tu_bool, ty_tu_int, ty_tu_str, ty_tu_list, ty_tu_tuple, ty_bo_none, ty_bo_bool, ty_bo_int, ty_bo_str, ty_bo_list, ty_bo_tuple, ty_in_none, ty_in_bool, ty_in_int, ty_in_str, ty_in_list, ty_in_tuple, ty_st_none, ty_st_bool, ty_st_int, ty_st_str, ty_st_list, ty_st_tuple, eq_int, ne_int, eq_bl, ne_bl, eq_st, ne_st, eq_li, ne_li, at_0, at_1, at_2, at_3, at_4, at_5, in_li, notin_li, c_z, c_s, gx_v, gx_s, e_mIsX, e_sTry, tc_ok, tc_exc, cm_nil, cm_cons, ex_ok, dx_nil, dx_v, dx_o, dx_x, dx_n, at_exx, Int.cast_ofNat_Int, e_mLrg1, e_mLrg2, d_lrg, e_mCat]
  intro j
  induction j generalizing es with
  | zero =>
    intro a b z hb hl
    have : b = 0 := by simpa using hb
    subst this
    cases es with
    | nil => simp at hl
    | cons d r => rw [Nat.gcd_zero_right]; exact stop d r a z
  | succ j ih =>
    intro a b z hb hl
    match es, hl with
    | d :: d' :: r, hl =>
      by_cases h0 : b = 0
      · subst h0; rw [Nat.gcd_zero_right]; exact stop d _ a z
      · rw [step _ _ _ _ _ h0]
        by_cases h1 : a % b = 0
        · have e : Nat.gcd a b = b := by rw [Nat.gcd_comm, Nat.gcd_rec, h1, Nat.gcd_zero_left]
          rw [h1, e]
          exact stop d' r b _
        · rw [step _ _ _ _ _ h1]
          have e : Nat.gcd a b = Nat.gcd (a % b) (b % (a % b)) := by
            rw [Nat.gcd_comm a b, Nat.gcd_rec b a, Nat.gcd_rec (a % b) b, Nat.gcd_comm]
          rw [e]
          have l1 := Nat.mod_lt a (Nat.pos_of_ne_zero h0)
          have l2 := Nat.mod_lt b (Nat.pos_of_ne_zero h1)
          have l3 := Nat.mod_add_div b (a % b)
          have l4 : 1 ≤ b / (a % b) := Nat.div_pos (by omega) (by omega)
          have l5 : a % b ≤ (a % b) * (b / (a % b)) := Nat.le_mul_of_pos_right _ l4
          rw [Nat.pow_succ] at hb
          exact ih r _ _ _ (by omega) (by simp only [List.length_cons] at hl; omega)
theorem common_ok {a b : Int} (hb : b.natAbs < 2 ^ 440) : m_law_common [.int a, .int b] = .ok (.int ((Nat.gcd a.natAbs b.natAbs : Nat) : Int)) := by
  have hr : r62 900 := r62_s (by decide) (by decide)
  have habs : ∀ i : Int, (if i < 0 then -i else i) = (i.natAbs : Int) := by intro i; split <;> omega
  obtain ⟨ρ', h⟩ := euclid (rangeL 0 900) 440 a.natAbs b.natAbs none hb (by rw [rangeL_len]; decide)
  unfold m_law_common b_law_common
  rw [fn_go (n := 2) rfl]
  change bodyOut (sThen _ _ [some (.val (.int a)), some (.val (.int b)), none]) = _
  simp (disch := omega) only [habs, hr, h, bind_ok, bind_bad, bind_exc, at_ok, at_exc, ofO_some, oS_some, nox_okk, g_v, g_s, go_v, go_s, ga_v, ga_o, ga_s, s_z, s_s, fz_o, fz_v, fz_s, e_mGet, e_mC, e_m2, e_m1, e_mT, e_mB, e_mAndB, e_mOrB, e_mNotB, e_mAnd, e_mOr, e_mIf, e_mChain, e_mNil, e_mCons, e_mSeq, e_mCall, e_mNo, e_mPart, e_mCut, e_mIs, e_mIs2, e_mL, e_mDsp, e_mRep, e_mBind, e_mIxO, e_mBor, e_mBorB, e_mItems, e_mWk, e_mRev, e_mYes, e_mLc, e_gN, e_gE, e_gC, e_gTt, e_gTl, e_sNx, e_sThen, e_sDrop, e_sRet, e_sSet, e_sIf, e_sFor, e_sAsg, e_sPar, e_sSetO, e_sSetL, e_ownAt, e_freeze, e_sApp, e_sSetIx, e_sAugIx, e_sAug, e_sPop, e_sPopTo, e_fnM, e_bo_rt, e_bo_nx, e_bo_exc, e_startE, e_wipe0, e_wipe1, d_add, d_addib, d_addl, d_addt, d_sub, d_mul, d_mulS, d_div, d_mod, d_pow, d_cmp, d_neg, d_not, d_iadd, d_iop, d_toB, d_toI, d_trB, d_trI, d_trN, d_trL, d_trT, d_lenL, d_lenT, d_intI, d_intB, d_abs, d_gcd, d_max2, d_min2, d_sumI, d_anyB, d_allB, d_maxL, d_minL, d_listL, d_listT, d_tupL, d_tupT, d_idxL, d_idxT, d_lstL, d_lstT, d_revL, d_itL, d_itT, d_rng1, d_rng2, d_rng3, d_enum1, d_zip2, d_rev1L, d_rev1T, d_cutL, d_cutT, d_rep, d_mTup, d_mLst, d_setD, d_scN, d_scB, d_scI, d_scS, d_isN, d_isNN, d_isB, d_isNB, d_nN, d_nB, d_nI, d_nS, d_nL, d_nT, if_true, if_false, ite_true, ite_false, reduceIte, List.length_cons, List.length_nil, Nat.zero_add, Nat.reduceAdd, Nat.reduceSub, Nat.reduceEqDiff, List.map_cons, List.map_nil, List.cons_append, List.nil_append, List.replicate, Option.map_some, Option.bind_some, Option.some.injEq, Bool.not_true, Bool.not_false, ne_eq, Bool.false_eq_true, Int.reduceEq, Int.reduceLT, Int.reduceLE, Int.reduceNeg, Int.reduceAdd, Int.reduceSub, Int.reduceMul, Int.reduceToNat, Int.toNat_natCast, Nat.reduceLT, Nat.reduceLeDiff, not_false_eq_true, not_true_eq_false, decide_true, decide_false, List.length_map, List.map_append, fmod_pos, fdiv_pos, and_true, true_and, and_self, Bool.and_true, Bool.or_false, Bool.and_false, Bool.or_true, Bool.true_and, Bool.false_and, ty_li_none, ty_li_bool, ty_li_int, ty_li_str, ty_li_list, ty_li_tuple, ty_tu_none, ty_tu_bool, ty_tu_int, ty_tu_str, ty_tu_list, ty_tu_tuple, ty_bo_none, ty_bo_bool, ty_bo_int, ty_bo_str, ty_bo_list, ty_bo_tuple, ty_in_none, ty_in_bool, ty_in_int, ty_in_str, ty_in_list, ty_in_tuple, ty_st_none, ty_st_bool, ty_st_int, ty_st_str, ty_st_list, ty_st_tuple, eq_int, ne_int, eq_bl, ne_bl, eq_st, ne_st, eq_li, ne_li, at_0, at_1, at_2, at_3, at_4, at_5, in_li, notin_li, c_z, c_s, gx_v, gx_s, e_mIsX, e_sTry, tc_ok, tc_exc, cm_nil, cm_cons, ex_ok, dx_nil, dx_v, dx_o, dx_x, dx_n, at_exx, Int.cast_ofNat_Int, e_mLrg1, e_mLrg2, d_lrg, e_mCat]
theorem law_frac_ok {t b : Int} (hb : b ≠ 0) (h1 : t.natAbs < 2 ^ 440) (h2 : b.natAbs < 2 ^ 440) : m_law_frac [.int t, .int b] = .ok (qd (Rat.divInt t b)) := by
  have h2s : 2 ≤ sizeLine := by rw [line_eq]; omega
  unfold m_law_frac b_law_frac
  rw [fn_go (n := 2) rfl]
  have e : startE 3 [.int t, .int b] = [some (.val (.int t)), some (.val (.int b)), none] := rfl
  rw [e]
  by_cases h : b < 0
  · obtain ⟨d1, d2⟩ := frac_pos (t := -t) (b := -b) (n := 440) (by omega) (by rw [Int.natAbs_neg]; exact h1) (by rw [Int.natAbs_neg]; exact h2) (by decide)
    obtain ⟨e1, e2⟩ := divInt_parts (t := -t) (b := -b) (by omega)
    have hc := common_ok (a := -t) (b := -b) (by rw [Int.natAbs_neg]; exact h2)
    rw [← divInt_flip t b hb]
    simp (disch := omega) only [h, d1, h2s, Int.zero_sub, hc, bind_ok, bind_bad, bind_exc, at_ok, at_exc, ofO_some, oS_some, nox_okk, g_v, g_s, go_v, go_s, ga_v, ga_o, ga_s, s_z, s_s, fz_o, fz_v, fz_s, e_mGet, e_mC, e_m2, e_m1, e_mT, e_mB, e_mAndB, e_mOrB, e_mNotB, e_mAnd, e_mOr, e_mIf, e_mChain, e_mNil, e_mCons, e_mSeq, e_mCall, e_mNo, e_mPart, e_mCut, e_mIs, e_mIs2, e_mL, e_mDsp, e_mRep, e_mBind, e_mIxO, e_mBor, e_mBorB, e_mItems, e_mWk, e_mRev, e_mYes, e_mLc, e_gN, e_gE, e_gC, e_gTt, e_gTl, e_sNx, e_sThen, e_sDrop, e_sRet, e_sSet, e_sIf, e_sFor, e_sAsg, e_sPar, e_sSetO, e_sSetL, e_ownAt, e_freeze, e_sApp, e_sSetIx, e_sAugIx, e_sAug, e_sPop, e_sPopTo, e_fnM, e_bo_rt, e_bo_nx, e_bo_exc, e_startE, e_wipe0, e_wipe1, d_add, d_addib, d_addl, d_addt, d_sub, d_mul, d_mulS, d_div, d_mod, d_pow, d_cmp, d_neg, d_not, d_iadd, d_iop, d_toB, d_toI, d_trB, d_trI, d_trN, d_trL, d_trT, d_lenL, d_lenT, d_intI, d_intB, d_abs, d_gcd, d_max2, d_min2, d_sumI, d_anyB, d_allB, d_maxL, d_minL, d_listL, d_listT, d_tupL, d_tupT, d_idxL, d_idxT, d_lstL, d_lstT, d_revL, d_itL, d_itT, d_rng1, d_rng2, d_rng3, d_enum1, d_zip2, d_rev1L, d_rev1T, d_cutL, d_cutT, d_rep, d_mTup, d_mLst, d_setD, d_scN, d_scB, d_scI, d_scS, d_isN, d_isNN, d_isB, d_isNB, d_nN, d_nB, d_nI, d_nS, d_nL, d_nT, if_true, if_false, ite_true, ite_false, reduceIte, List.length_cons, List.length_nil, Nat.zero_add, Nat.reduceAdd, Nat.reduceSub, Nat.reduceEqDiff, List.map_cons, List.map_nil, List.cons_append, List.nil_append, List.replicate, Option.map_some, Option.bind_some, Option.some.injEq, Bool.not_true, Bool.not_false, ne_eq, Bool.false_eq_true, Int.reduceEq, Int.reduceLT, Int.reduceLE, Int.reduceNeg, Int.reduceAdd, Int.reduceSub, Int.reduceMul, Int.reduceToNat, Int.toNat_natCast, Nat.reduceLT, Nat.reduceLeDiff, not_false_eq_true, not_true_eq_false, decide_true, decide_false, List.length_map, List.map_append, fmod_pos, fdiv_pos, and_true, true_and, and_self, Bool.and_true, Bool.or_false, Bool.and_false, Bool.or_true, Bool.true_and, Bool.false_and, ty_li_none, ty_li_bool, ty_li_int, ty_li_str, ty_li_list, ty_li_tuple, ty_tu_none, ty_tu_bool, ty_tu_int, ty_tu_str, ty_tu_list, ty_tu_tuple, ty_bo_none, ty_bo_bool, ty_bo_int, ty_bo_str, ty_bo_list, ty_bo_tuple, ty_in_none, ty_in_bool, ty_in_int, ty_in_str, ty_in_list, ty_in_tuple, ty_st_none, ty_st_bool, ty_st_int, ty_st_str, ty_st_list, ty_st_tuple, eq_int, ne_int, eq_bl, ne_bl, eq_st, ne_st, eq_li, ne_li, at_0, at_1, at_2, at_3, at_4, at_5, in_li, notin_li, c_z, c_s, gx_v, gx_s, e_mIsX, e_sTry, tc_ok, tc_exc, cm_nil, cm_cons, ex_ok, dx_nil, dx_v, dx_o, dx_x, dx_n, at_exx, Int.cast_ofNat_Int, e_mLrg1, e_mLrg2, d_lrg, e_mCat]
    rw [← e1, ← e2]
  · obtain ⟨d1, d2⟩ := frac_pos (t := t) (b := b) (n := 440) (by omega) h1 h2 (by decide)
    obtain ⟨e1, e2⟩ := divInt_parts (t := t) (b := b) (by omega)
    have hc := common_ok (a := t) (b := b) h2
    simp (disch := omega) only [h, d1, h2s, hc, bind_ok, bind_bad, bind_exc, at_ok, at_exc, ofO_some, oS_some, nox_okk, g_v, g_s, go_v, go_s, ga_v, ga_o, ga_s, s_z, s_s, fz_o, fz_v, fz_s, e_mGet, e_mC, e_m2, e_m1, e_mT, e_mB, e_mAndB, e_mOrB, e_mNotB, e_mAnd, e_mOr, e_mIf, e_mChain, e_mNil, e_mCons, e_mSeq, e_mCall, e_mNo, e_mPart, e_mCut, e_mIs, e_mIs2, e_mL, e_mDsp, e_mRep, e_mBind, e_mIxO, e_mBor, e_mBorB, e_mItems, e_mWk, e_mRev, e_mYes, e_mLc, e_gN, e_gE, e_gC, e_gTt, e_gTl, e_sNx, e_sThen, e_sDrop, e_sRet, e_sSet, e_sIf, e_sFor, e_sAsg, e_sPar, e_sSetO, e_sSetL, e_ownAt, e_freeze, e_sApp, e_sSetIx, e_sAugIx, e_sAug, e_sPop, e_sPopTo, e_fnM, e_bo_rt, e_bo_nx, e_bo_exc, e_startE, e_wipe0, e_wipe1, d_add, d_addib, d_addl, d_addt, d_sub, d_mul, d_mulS, d_div, d_mod, d_pow, d_cmp, d_neg, d_not, d_iadd, d_iop, d_toB, d_toI, d_trB, d_trI, d_trN, d_trL, d_trT, d_lenL, d_lenT, d_intI, d_intB, d_abs, d_gcd, d_max2, d_min2, d_sumI, d_anyB, d_allB, d_maxL, d_minL, d_listL, d_listT, d_tupL, d_tupT, d_idxL, d_idxT, d_lstL, d_lstT, d_revL, d_itL, d_itT, d_rng1, d_rng2, d_rng3, d_enum1, d_zip2, d_rev1L, d_rev1T, d_cutL, d_cutT, d_rep, d_mTup, d_mLst, d_setD, d_scN, d_scB, d_scI, d_scS, d_isN, d_isNN, d_isB, d_isNB, d_nN, d_nB, d_nI, d_nS, d_nL, d_nT, if_true, if_false, ite_true, ite_false, reduceIte, List.length_cons, List.length_nil, Nat.zero_add, Nat.reduceAdd, Nat.reduceSub, Nat.reduceEqDiff, List.map_cons, List.map_nil, List.cons_append, List.nil_append, List.replicate, Option.map_some, Option.bind_some, Option.some.injEq, Bool.not_true, Bool.not_false, ne_eq, Bool.false_eq_true, Int.reduceEq, Int.reduceLT, Int.reduceLE, Int.reduceNeg, Int.reduceAdd, Int.reduceSub, Int.reduceMul, Int.reduceToNat, Int.toNat_natCast, Nat.reduceLT, Nat.reduceLeDiff, not_false_eq_true, not_true_eq_false, decide_true, decide_false, List.length_map, List.map_append, fmod_pos, fdiv_pos, and_true, true_and, and_self, Bool.and_true, Bool.or_false, Bool.and_false, Bool.or_true, Bool.true_and, Bool.false_and, ty_li_none, ty_li_bool, ty_li_int, ty_li_str, ty_li_list, ty_li_tuple, ty_tu_none, ty_tu_bool, ty_tu_int, ty_tu_str, ty_tu_list, ty_tu_tuple, ty_bo_none, ty_bo_bool, ty_bo_int, ty_bo_str, ty_bo_list, ty_bo_tuple, ty_in_none, ty_in_bool, ty_in_int, ty_in_str, ty_in_list, ty_in_tuple, ty_st_none, ty_st_bool, ty_st_int, ty_st_str, ty_st_list, ty_st_tuple, eq_int, ne_int, eq_bl, ne_bl, eq_st, ne_st, eq_li, ne_li, at_0, at_1, at_2, at_3, at_4, at_5, in_li, notin_li, c_z, c_s, gx_v, gx_s, e_mIsX, e_sTry, tc_ok, tc_exc, cm_nil, cm_cons, ex_ok, dx_nil, dx_v, dx_o, dx_x, dx_n, at_exx, Int.cast_ofNat_Int, e_mLrg1, e_mLrg2, d_lrg, e_mCat]
    rw [← e1, ← e2]
theorem divInt_div (t b : Int) : Rat.divInt t b = ((t : Int) : Rat) / ((b : Int) : Rat) := Rat.divInt_eq_div t b
theorem div_of (p q : Rat) (hq : q ≠ 0) : Rat.divInt (p.num * q.den) (p.den * q.num) = p / q := by
  have h0 : q.num ≠ 0 := fun h => hq (Rat.num_eq_zero.mp h)
  have := div_mul p q h0
  rw [← this, Rat.div_def, Rat.mul_assoc, Rat.mul_inv_cancel _ hq, Rat.mul_one]
  rw [this]
theorem less_iff (p q : Rat) : decide (p.num * q.den < q.num * p.den) = decide (p < q) := by
  rw [decide_eq_decide]
  exact (Rat.lt_iff p q).symm
theorem sz_cross {p q : Rat} (h : Q2 p q) : (p.num * q.den).natAbs < 2 ^ 400 ∧ (q.num * p.den).natAbs < 2 ^ 400 ∧ ((p.den : Int) * q.den).natAbs < 2 ^ 400 ∧ (p.num * q.num).natAbs < 2 ^ 400 ∧ mulOk p.num (q.den : Int) ∧ mulOk q.num (p.den : Int) ∧ mulOk (p.den : Int) (q.den : Int) ∧ mulOk p.num q.num ∧ mulOk (p.den : Int) q.num :=
  ⟨mul_sz (a := 200) (b := 200) h.1.1 h.2.dn, mul_sz (a := 200) (b := 200) h.2.1 h.1.dn, mul_sz (a := 200) (b := 200) h.1.dn h.2.dn, mul_sz (a := 200) (b := 200) h.1.1 h.2.1, mulOk_sz h.1.1 h.2.dn (by decide), mulOk_sz h.2.1 h.1.dn (by decide), mulOk_sz h.1.dn h.2.dn (by decide), mulOk_sz h.1.1 h.2.1 (by decide), mulOk_sz h.1.dn h.2.1 (by decide)⟩
theorem pw_le {a b : Nat} {i : Int} (h : i.natAbs < 2 ^ a) (hab : a ≤ b) : i.natAbs < 2 ^ b := Nat.lt_of_lt_of_le h (pow_le_pow2 hab)
theorem T_fraction (t b : Int) (h : Qf t b) : m_fraction [.int t, .int b] = .ok (encQ ((t : Rat) / (b : Rat))) := by
  rw [← divInt_div]
  exact fraction_ok (n := 400) h.1 h.2.1 h.2.2 (by decide)
theorem T_law_frac (t b : Int) (h : Qf t b) : m_law_frac [.int t, .int b] = .ok (encQ ((t : Rat) / (b : Rat))) := by
  rw [← divInt_div]
  exact law_frac_ok h.1 (pw_le h.2.1 (by decide)) (pw_le h.2.2 (by decide))
theorem T_whole (i : Int) : m_whole [.int i] = .ok (encQ (i : Rat)) := by
  have h2s : 2 ≤ sizeLine := by rw [line_eq]; omega
  unfold m_whole b_whole
  rw [fn_go (n := 1) rfl]
  change bodyOut (sRet _ [some (.val (.int i))]) = _
  simp (disch := omega) only [h2s, bind_ok, bind_bad, bind_exc, at_ok, at_exc, ofO_some, oS_some, nox_okk, g_v, g_s, go_v, go_s, ga_v, ga_o, ga_s, s_z, s_s, fz_o, fz_v, fz_s, e_mGet, e_mC, e_m2, e_m1, e_mT, e_mB, e_mAndB, e_mOrB, e_mNotB, e_mAnd, e_mOr, e_mIf, e_mChain, e_mNil, e_mCons, e_mSeq, e_mCall, e_mNo, e_mPart, e_mCut, e_mIs, e_mIs2, e_mL, e_mDsp, e_mRep, e_mBind, e_mIxO, e_mBor, e_mBorB, e_mItems, e_mWk, e_mRev, e_mYes, e_mLc, e_gN, e_gE, e_gC, e_gTt, e_gTl, e_sNx, e_sThen, e_sDrop, e_sRet, e_sSet, e_sIf, e_sFor, e_sAsg, e_sPar, e_sSetO, e_sSetL, e_ownAt, e_freeze, e_sApp, e_sSetIx, e_sAugIx, e_sAug, e_sPop, e_sPopTo, e_fnM, e_bo_rt, e_bo_nx, e_bo_exc, e_startE, e_wipe0, e_wipe1, d_add, d_addib, d_addl, d_addt, d_sub, d_mul, d_mulS, d_div, d_mod, d_pow, d_cmp, d_neg, d_not, d_iadd, d_iop, d_toB, d_toI, d_trB, d_trI, d_trN, d_trL, d_trT, d_lenL, d_lenT, d_intI, d_intB, d_abs, d_gcd, d_max2, d_min2, d_sumI, d_anyB, d_allB, d_maxL, d_minL, d_listL, d_listT, d_tupL, d_tupT, d_idxL, d_idxT, d_lstL, d_lstT, d_revL, d_itL, d_itT, d_rng1, d_rng2, d_rng3, d_enum1, d_zip2, d_rev1L, d_rev1T, d_cutL, d_cutT, d_rep, d_mTup, d_mLst, d_setD, d_scN, d_scB, d_scI, d_scS, d_isN, d_isNN, d_isB, d_isNB, d_nN, d_nB, d_nI, d_nS, d_nL, d_nT, if_true, if_false, ite_true, ite_false, reduceIte, List.length_cons, List.length_nil, Nat.zero_add, Nat.reduceAdd, Nat.reduceSub, Nat.reduceEqDiff, List.map_cons, List.map_nil, List.cons_append, List.nil_append, List.replicate, Option.map_some, Option.bind_some, Option.some.injEq, Bool.not_true, Bool.not_false, ne_eq, Bool.false_eq_true, Int.reduceEq, Int.reduceLT, Int.reduceLE, Int.reduceNeg, Int.reduceAdd, Int.reduceSub, Int.reduceMul, Int.reduceToNat, Int.toNat_natCast, Nat.reduceLT, Nat.reduceLeDiff, not_false_eq_true, not_true_eq_false, decide_true, decide_false, List.length_map, List.map_append, fmod_pos, fdiv_pos, and_true, true_and, and_self, Bool.and_true, Bool.or_false, Bool.and_false, Bool.or_true, Bool.true_and, Bool.false_and, ty_li_none, ty_li_bool, ty_li_int, ty_li_str, ty_li_list, ty_li_tuple, ty_tu_none, ty_tu_bool, ty_tu_int, ty_tu_str, ty_tu_list, ty_tu_tuple, ty_bo_none, ty_bo_bool, ty_bo_int, ty_bo_str, ty_bo_list, ty_bo_tuple, ty_in_none, ty_in_bool, ty_in_int, ty_in_str, ty_in_list, ty_in_tuple, ty_st_none, ty_st_bool, ty_st_int, ty_st_str, ty_st_list, ty_st_tuple, eq_int, ne_int, eq_bl, ne_bl, eq_st, ne_st, eq_li, ne_li, at_0, at_1, at_2, at_3, at_4, at_5, in_li, notin_li, c_z, c_s, gx_v, gx_s, e_mIsX, e_sTry, tc_ok, tc_exc, cm_nil, cm_cons, ex_ok, dx_nil, dx_v, dx_o, dx_x, dx_n, at_exx, Int.cast_ofNat_Int, e_mLrg1, e_mLrg2, d_lrg, e_mCat]; rfl
theorem T_plus (p q : Rat) (h : Q2 p q) : m_plus [encQ p, encQ q] = .ok (encQ (p + q)) := plus_ok h.1 h.2 (by decide)
theorem T_minus (p q : Rat) (h : Q2 p q) : m_minus [encQ p, encQ q] = .ok (encQ (p - q)) := minus_ok h.1 h.2 (by decide)
theorem T_times (p q : Rat) (h : Q2 p q) : m_times [encQ p, encQ q] = .ok (encQ (p * q)) := times_ok h.1 h.2 (by decide)
theorem T_over (p q : Rat) (h : Qd p q) : m_over [encQ p, encQ q] = .ok (encQ (p / q)) := by
  rw [← div_of p q h.2.2]
  exact over_ok h.1 h.2.1 (by decide) (fun e => h.2.2 (Rat.num_eq_zero.mp e))
theorem T_is_less (p q : Rat) (h : Q2 p q) : m_is_less [encQ p, encQ q] = .ok (.bool (decide (p < q))) := by
  rw [← less_iff]
  exact is_less_ok h.1 h.2 (by decide)
theorem T_law_less (p q : Rat) (h : Q2 p q) : m_law_less [encQ p, encQ q] = .ok (.bool (decide (p < q))) := by
  obtain ⟨_, _, _, _, m1, m2, _⟩ := sz_cross h
  rw [← less_iff]
  unfold m_law_less b_law_less
  rw [fn_go (n := 2) rfl]
  change bodyOut (sRet _ [some (.val (qd p)), some (.val (qd q))]) = _
  simp (disch := omega) only [m1, m2, bind_ok, bind_bad, bind_exc, at_ok, at_exc, ofO_some, oS_some, nox_okk, g_v, g_s, go_v, go_s, ga_v, ga_o, ga_s, s_z, s_s, fz_o, fz_v, fz_s, e_mGet, e_mC, e_m2, e_m1, e_mT, e_mB, e_mAndB, e_mOrB, e_mNotB, e_mAnd, e_mOr, e_mIf, e_mChain, e_mNil, e_mCons, e_mSeq, e_mCall, e_mNo, e_mPart, e_mCut, e_mIs, e_mIs2, e_mL, e_mDsp, e_mRep, e_mBind, e_mIxO, e_mBor, e_mBorB, e_mItems, e_mWk, e_mRev, e_mYes, e_mLc, e_gN, e_gE, e_gC, e_gTt, e_gTl, e_sNx, e_sThen, e_sDrop, e_sRet, e_sSet, e_sIf, e_sFor, e_sAsg, e_sPar, e_sSetO, e_sSetL, e_ownAt, e_freeze, e_sApp, e_sSetIx, e_sAugIx, e_sAug, e_sPop, e_sPopTo, e_fnM, e_bo_rt, e_bo_nx, e_bo_exc, e_startE, e_wipe0, e_wipe1, d_add, d_addib, d_addl, d_addt, d_sub, d_mul, d_mulS, d_div, d_mod, d_pow, d_cmp, d_neg, d_not, d_iadd, d_iop, d_toB, d_toI, d_trB, d_trI, d_trN, d_trL, d_trT, d_lenL, d_lenT, d_intI, d_intB, d_abs, d_gcd, d_max2, d_min2, d_sumI, d_anyB, d_allB, d_maxL, d_minL, d_listL, d_listT, d_tupL, d_tupT, d_idxL, d_idxT, d_lstL, d_lstT, d_revL, d_itL, d_itT, d_rng1, d_rng2, d_rng3, d_enum1, d_zip2, d_rev1L, d_rev1T, d_cutL, d_cutT, d_rep, d_mTup, d_mLst, d_setD, d_scN, d_scB, d_scI, d_scS, d_isN, d_isNN, d_isB, d_isNB, d_nN, d_nB, d_nI, d_nS, d_nL, d_nT, if_true, if_false, ite_true, ite_false, reduceIte, List.length_cons, List.length_nil, Nat.zero_add, Nat.reduceAdd, Nat.reduceSub, Nat.reduceEqDiff, List.map_cons, List.map_nil, List.cons_append, List.nil_append, List.replicate, Option.map_some, Option.bind_some, Option.some.injEq, Bool.not_true, Bool.not_false, ne_eq, Bool.false_eq_true, Int.reduceEq, Int.reduceLT, Int.reduceLE, Int.reduceNeg, Int.reduceAdd, Int.reduceSub, Int.reduceMul, Int.reduceToNat, Int.toNat_natCast, Nat.reduceLT, Nat.reduceLeDiff, not_false_eq_true, not_true_eq_false, decide_true, decide_false, List.length_map, List.map_append, fmod_pos, fdiv_pos, and_true, true_and, and_self, Bool.and_true, Bool.or_false, Bool.and_false, Bool.or_true, Bool.true_and, Bool.false_and, ty_li_none, ty_li_bool, ty_li_int, ty_li_str, ty_li_list, ty_li_tuple, ty_tu_none, ty_tu_bool, ty_tu_int, ty_tu_str, ty_tu_list, ty_tu_tuple, ty_bo_none, ty_bo_bool, ty_bo_int, ty_bo_str, ty_bo_list, ty_bo_tuple, ty_in_none, ty_in_bool, ty_in_int, ty_in_str, ty_in_list, ty_in_tuple, ty_st_none, ty_st_bool, ty_st_int, ty_st_str, ty_st_list, ty_st_tuple, eq_int, ne_int, eq_bl, ne_bl, eq_st, ne_st, eq_li, ne_li, at_0, at_1, at_2, at_3, at_4, at_5, in_li, notin_li, c_z, c_s, gx_v, gx_s, e_mIsX, e_sTry, tc_ok, tc_exc, cm_nil, cm_cons, ex_ok, dx_nil, dx_v, dx_o, dx_x, dx_n, at_exx, Int.cast_ofNat_Int, e_mLrg1, e_mLrg2, d_lrg, e_mCat]
theorem T_law_plus (p q : Rat) (h : Q2 p q) : m_law_plus [encQ p, encQ q] = .ok (encQ (p + q)) := by
  obtain ⟨c1, c2, c3, _, m1, m2, m3, _⟩ := sz_cross h
  have hf := law_frac_ok (dens_ne p q) (pw_le (add_sz c1 c2) (by decide)) (pw_le c3 (by decide))
  rw [add_eq] at hf
  unfold m_law_plus b_law_plus
  rw [fn_go (n := 2) rfl]
  change bodyOut (sRet _ [some (.val (qd p)), some (.val (qd q))]) = .ok (qd (p + q))
  simp (disch := omega) only [m1, m2, m3, hf, bind_ok, bind_bad, bind_exc, at_ok, at_exc, ofO_some, oS_some, nox_okk, g_v, g_s, go_v, go_s, ga_v, ga_o, ga_s, s_z, s_s, fz_o, fz_v, fz_s, e_mGet, e_mC, e_m2, e_m1, e_mT, e_mB, e_mAndB, e_mOrB, e_mNotB, e_mAnd, e_mOr, e_mIf, e_mChain, e_mNil, e_mCons, e_mSeq, e_mCall, e_mNo, e_mPart, e_mCut, e_mIs, e_mIs2, e_mL, e_mDsp, e_mRep, e_mBind, e_mIxO, e_mBor, e_mBorB, e_mItems, e_mWk, e_mRev, e_mYes, e_mLc, e_gN, e_gE, e_gC, e_gTt, e_gTl, e_sNx, e_sThen, e_sDrop, e_sRet, e_sSet, e_sIf, e_sFor, e_sAsg, e_sPar, e_sSetO, e_sSetL, e_ownAt, e_freeze, e_sApp, e_sSetIx, e_sAugIx, e_sAug, e_sPop, e_sPopTo, e_fnM, e_bo_rt, e_bo_nx, e_bo_exc, e_startE, e_wipe0, e_wipe1, d_add, d_addib, d_addl, d_addt, d_sub, d_mul, d_mulS, d_div, d_mod, d_pow, d_cmp, d_neg, d_not, d_iadd, d_iop, d_toB, d_toI, d_trB, d_trI, d_trN, d_trL, d_trT, d_lenL, d_lenT, d_intI, d_intB, d_abs, d_gcd, d_max2, d_min2, d_sumI, d_anyB, d_allB, d_maxL, d_minL, d_listL, d_listT, d_tupL, d_tupT, d_idxL, d_idxT, d_lstL, d_lstT, d_revL, d_itL, d_itT, d_rng1, d_rng2, d_rng3, d_enum1, d_zip2, d_rev1L, d_rev1T, d_cutL, d_cutT, d_rep, d_mTup, d_mLst, d_setD, d_scN, d_scB, d_scI, d_scS, d_isN, d_isNN, d_isB, d_isNB, d_nN, d_nB, d_nI, d_nS, d_nL, d_nT, if_true, if_false, ite_true, ite_false, reduceIte, List.length_cons, List.length_nil, Nat.zero_add, Nat.reduceAdd, Nat.reduceSub, Nat.reduceEqDiff, List.map_cons, List.map_nil, List.cons_append, List.nil_append, List.replicate, Option.map_some, Option.bind_some, Option.some.injEq, Bool.not_true, Bool.not_false, ne_eq, Bool.false_eq_true, Int.reduceEq, Int.reduceLT, Int.reduceLE, Int.reduceNeg, Int.reduceAdd, Int.reduceSub, Int.reduceMul, Int.reduceToNat, Int.toNat_natCast, Nat.reduceLT, Nat.reduceLeDiff, not_false_eq_true, not_true_eq_false, decide_true, decide_false, List.length_map, List.map_append, fmod_pos, fdiv_pos, and_true, true_and, and_self, Bool.and_true, Bool.or_false, Bool.and_false, Bool.or_true, Bool.true_and, Bool.false_and, ty_li_none, ty_li_bool, ty_li_int, ty_li_str, ty_li_list, ty_li_tuple, ty_tu_none, ty_tu_bool, ty_tu_int, ty_tu_str, ty_tu_list, ty_tu_tuple, ty_bo_none, ty_bo_bool, ty_bo_int, ty_bo_str, ty_bo_list, ty_bo_tuple, ty_in_none, ty_in_bool, ty_in_int, ty_in_str, ty_in_list, ty_in_tuple, ty_st_none, ty_st_bool, ty_st_int, ty_st_str, ty_st_list, ty_st_tuple, eq_int, ne_int, eq_bl, ne_bl, eq_st, ne_st, eq_li, ne_li, at_0, at_1, at_2, at_3, at_4, at_5, in_li, notin_li, c_z, c_s, gx_v, gx_s, e_mIsX, e_sTry, tc_ok, tc_exc, cm_nil, cm_cons, ex_ok, dx_nil, dx_v, dx_o, dx_x, dx_n, at_exx, Int.cast_ofNat_Int, e_mLrg1, e_mLrg2, d_lrg, e_mCat]
theorem T_law_minus (p q : Rat) (h : Q2 p q) : m_law_minus [encQ p, encQ q] = .ok (encQ (p - q)) := by
  obtain ⟨c1, c2, c3, _, m1, m2, m3, _⟩ := sz_cross h
  have hf := law_frac_ok (dens_ne p q) (pw_le (sub_sz c1 c2) (by decide)) (pw_le c3 (by decide))
  rw [sub_eq] at hf
  unfold m_law_minus b_law_minus
  rw [fn_go (n := 2) rfl]
  change bodyOut (sRet _ [some (.val (qd p)), some (.val (qd q))]) = .ok (qd (p - q))
  simp (disch := omega) only [m1, m2, m3, hf, bind_ok, bind_bad, bind_exc, at_ok, at_exc, ofO_some, oS_some, nox_okk, g_v, g_s, go_v, go_s, ga_v, ga_o, ga_s, s_z, s_s, fz_o, fz_v, fz_s, e_mGet, e_mC, e_m2, e_m1, e_mT, e_mB, e_mAndB, e_mOrB, e_mNotB, e_mAnd, e_mOr, e_mIf, e_mChain, e_mNil, e_mCons, e_mSeq, e_mCall, e_mNo, e_mPart, e_mCut, e_mIs, e_mIs2, e_mL, e_mDsp, e_mRep, e_mBind, e_mIxO, e_mBor, e_mBorB, e_mItems, e_mWk, e_mRev, e_mYes, e_mLc, e_gN, e_gE, e_gC, e_gTt, e_gTl, e_sNx, e_sThen, e_sDrop, e_sRet, e_sSet, e_sIf, e_sFor, e_sAsg, e_sPar, e_sSetO, e_sSetL, e_ownAt, e_freeze, e_sApp, e_sSetIx, e_sAugIx, e_sAug, e_sPop, e_sPopTo, e_fnM, e_bo_rt, e_bo_nx, e_bo_exc, e_startE, e_wipe0, e_wipe1, d_add, d_addib, d_addl, d_addt, d_sub, d_mul, d_mulS, d_div, d_mod, d_pow, d_cmp, d_neg, d_not, d_iadd, d_iop, d_toB, d_toI, d_trB, d_trI, d_trN, d_trL, d_trT, d_lenL, d_lenT, d_intI, d_intB, d_abs, d_gcd, d_max2, d_min2, d_sumI, d_anyB, d_allB, d_maxL, d_minL, d_listL, d_listT, d_tupL, d_tupT, d_idxL, d_idxT, d_lstL, d_lstT, d_revL, d_itL, d_itT, d_rng1, d_rng2, d_rng3, d_enum1, d_zip2, d_rev1L, d_rev1T, d_cutL, d_cutT, d_rep, d_mTup, d_mLst, d_setD, d_scN, d_scB, d_scI, d_scS, d_isN, d_isNN, d_isB, d_isNB, d_nN, d_nB, d_nI, d_nS, d_nL, d_nT, if_true, if_false, ite_true, ite_false, reduceIte, List.length_cons, List.length_nil, Nat.zero_add, Nat.reduceAdd, Nat.reduceSub, Nat.reduceEqDiff, List.map_cons, List.map_nil, List.cons_append, List.nil_append, List.replicate, Option.map_some, Option.bind_some, Option.some.injEq, Bool.not_true, Bool.not_false, ne_eq, Bool.false_eq_true, Int.reduceEq, Int.reduceLT, Int.reduceLE, Int.reduceNeg, Int.reduceAdd, Int.reduceSub, Int.reduceMul, Int.reduceToNat, Int.toNat_natCast, Nat.reduceLT, Nat.reduceLeDiff, not_false_eq_true, not_true_eq_false, decide_true, decide_false, List.length_map, List.map_append, fmod_pos, fdiv_pos, and_true, true_and, and_self, Bool.and_true, Bool.or_false, Bool.and_false, Bool.or_true, Bool.true_and, Bool.false_and, ty_li_none, ty_li_bool, ty_li_int, ty_li_str, ty_li_list, ty_li_tuple, ty_tu_none, ty_tu_bool, ty_tu_int, ty_tu_str, ty_tu_list, ty_tu_tuple, ty_bo_none, ty_bo_bool, ty_bo_int, ty_bo_str, ty_bo_list, ty_bo_tuple, ty_in_none, ty_in_bool, ty_in_int, ty_in_str, ty_in_list, ty_in_tuple, ty_st_none, ty_st_bool, ty_st_int, ty_st_str, ty_st_list, ty_st_tuple, eq_int, ne_int, eq_bl, ne_bl, eq_st, ne_st, eq_li, ne_li, at_0, at_1, at_2, at_3, at_4, at_5, in_li, notin_li, c_z, c_s, gx_v, gx_s, e_mIsX, e_sTry, tc_ok, tc_exc, cm_nil, cm_cons, ex_ok, dx_nil, dx_v, dx_o, dx_x, dx_n, at_exx, Int.cast_ofNat_Int, e_mLrg1, e_mLrg2, d_lrg, e_mCat]
theorem T_law_times (p q : Rat) (h : Q2 p q) : m_law_times [encQ p, encQ q] = .ok (encQ (p * q)) := by
  obtain ⟨c1, c2, c3, c4, m1, m2, m3, m4, _⟩ := sz_cross h
  have hf := law_frac_ok (dens_ne p q) (pw_le c4 (by decide)) (pw_le c3 (by decide))
  rw [mul_eq] at hf
  unfold m_law_times b_law_times
  rw [fn_go (n := 2) rfl]
  change bodyOut (sRet _ [some (.val (qd p)), some (.val (qd q))]) = .ok (qd (p * q))
  simp (disch := omega) only [m4, m3, hf, bind_ok, bind_bad, bind_exc, at_ok, at_exc, ofO_some, oS_some, nox_okk, g_v, g_s, go_v, go_s, ga_v, ga_o, ga_s, s_z, s_s, fz_o, fz_v, fz_s, e_mGet, e_mC, e_m2, e_m1, e_mT, e_mB, e_mAndB, e_mOrB, e_mNotB, e_mAnd, e_mOr, e_mIf, e_mChain, e_mNil, e_mCons, e_mSeq, e_mCall, e_mNo, e_mPart, e_mCut, e_mIs, e_mIs2, e_mL, e_mDsp, e_mRep, e_mBind, e_mIxO, e_mBor, e_mBorB, e_mItems, e_mWk, e_mRev, e_mYes, e_mLc, e_gN, e_gE, e_gC, e_gTt, e_gTl, e_sNx, e_sThen, e_sDrop, e_sRet, e_sSet, e_sIf, e_sFor, e_sAsg, e_sPar, e_sSetO, e_sSetL, e_ownAt, e_freeze, e_sApp, e_sSetIx, e_sAugIx, e_sAug, e_sPop, e_sPopTo, e_fnM, e_bo_rt, e_bo_nx, e_bo_exc, e_startE, e_wipe0, e_wipe1, d_add, d_addib, d_addl, d_addt, d_sub, d_mul, d_mulS, d_div, d_mod, d_pow, d_cmp, d_neg, d_not, d_iadd, d_iop, d_toB, d_toI, d_trB, d_trI, d_trN, d_trL, d_trT, d_lenL, d_lenT, d_intI, d_intB, d_abs, d_gcd, d_max2, d_min2, d_sumI, d_anyB, d_allB, d_maxL, d_minL, d_listL, d_listT, d_tupL, d_tupT, d_idxL, d_idxT, d_lstL, d_lstT, d_revL, d_itL, d_itT, d_rng1, d_rng2, d_rng3, d_enum1, d_zip2, d_rev1L, d_rev1T, d_cutL, d_cutT, d_rep, d_mTup, d_mLst, d_setD, d_scN, d_scB, d_scI, d_scS, d_isN, d_isNN, d_isB, d_isNB, d_nN, d_nB, d_nI, d_nS, d_nL, d_nT, if_true, if_false, ite_true, ite_false, reduceIte, List.length_cons, List.length_nil, Nat.zero_add, Nat.reduceAdd, Nat.reduceSub, Nat.reduceEqDiff, List.map_cons, List.map_nil, List.cons_append, List.nil_append, List.replicate, Option.map_some, Option.bind_some, Option.some.injEq, Bool.not_true, Bool.not_false, ne_eq, Bool.false_eq_true, Int.reduceEq, Int.reduceLT, Int.reduceLE, Int.reduceNeg, Int.reduceAdd, Int.reduceSub, Int.reduceMul, Int.reduceToNat, Int.toNat_natCast, Nat.reduceLT, Nat.reduceLeDiff, not_false_eq_true, not_true_eq_false, decide_true, decide_false, List.length_map, List.map_append, fmod_pos, fdiv_pos, and_true, true_and, and_self, Bool.and_true, Bool.or_false, Bool.and_false, Bool.or_true, Bool.true_and, Bool.false_and, ty_li_none, ty_li_bool, ty_li_int, ty_li_str, ty_li_list, ty_li_tuple, ty_tu_none, ty_tu_bool, ty_tu_int, ty_tu_str, ty_tu_list, ty_tu_tuple, ty_bo_none, ty_bo_bool, ty_bo_int, ty_bo_str, ty_bo_list, ty_bo_tuple, ty_in_none, ty_in_bool, ty_in_int, ty_in_str, ty_in_list, ty_in_tuple, ty_st_none, ty_st_bool, ty_st_int, ty_st_str, ty_st_list, ty_st_tuple, eq_int, ne_int, eq_bl, ne_bl, eq_st, ne_st, eq_li, ne_li, at_0, at_1, at_2, at_3, at_4, at_5, in_li, notin_li, c_z, c_s, gx_v, gx_s, e_mIsX, e_sTry, tc_ok, tc_exc, cm_nil, cm_cons, ex_ok, dx_nil, dx_v, dx_o, dx_x, dx_n, at_exx, Int.cast_ofNat_Int, e_mLrg1, e_mLrg2, d_lrg, e_mCat]
theorem T_law_over (p q : Rat) (h : Qd p q) : m_law_over [encQ p, encQ q] = .ok (encQ (p / q)) := by
  obtain ⟨c1, c2, c3, c4, m1, m2, m3, m4, m5⟩ := sz_cross ⟨h.1, h.2.1⟩
  have h0 : q.num ≠ 0 := fun e => h.2.2 (Rat.num_eq_zero.mp e)
  have hf := law_frac_ok (t := p.num * q.den) (b := p.den * q.num) (Int.mul_ne_zero (by have := den_pos p; omega) h0) (pw_le c1 (by decide)) (pw_le (mul_sz (a := 200) (b := 200) h.1.dn h.2.1.1) (by decide))
  rw [div_of p q h.2.2] at hf
  unfold m_law_over b_law_over
  rw [fn_go (n := 2) rfl]
  change bodyOut (sRet _ [some (.val (qd p)), some (.val (qd q))]) = .ok (qd (p / q))
  simp (disch := omega) only [m1, m5, hf, bind_ok, bind_bad, bind_exc, at_ok, at_exc, ofO_some, oS_some, nox_okk, g_v, g_s, go_v, go_s, ga_v, ga_o, ga_s, s_z, s_s, fz_o, fz_v, fz_s, e_mGet, e_mC, e_m2, e_m1, e_mT, e_mB, e_mAndB, e_mOrB, e_mNotB, e_mAnd, e_mOr, e_mIf, e_mChain, e_mNil, e_mCons, e_mSeq, e_mCall, e_mNo, e_mPart, e_mCut, e_mIs, e_mIs2, e_mL, e_mDsp, e_mRep, e_mBind, e_mIxO, e_mBor, e_mBorB, e_mItems, e_mWk, e_mRev, e_mYes, e_mLc, e_gN, e_gE, e_gC, e_gTt, e_gTl, e_sNx, e_sThen, e_sDrop, e_sRet, e_sSet, e_sIf, e_sFor, e_sAsg, e_sPar, e_sSetO, e_sSetL, e_ownAt, e_freeze, e_sApp, e_sSetIx, e_sAugIx, e_sAug, e_sPop, e_sPopTo, e_fnM, e_bo_rt, e_bo_nx, e_bo_exc, e_startE, e_wipe0, e_wipe1, d_add, d_addib, d_addl, d_addt, d_sub, d_mul, d_mulS, d_div, d_mod, d_pow, d_cmp, d_neg, d_not, d_iadd, d_iop, d_toB, d_toI, d_trB, d_trI, d_trN, d_trL, d_trT, d_lenL, d_lenT, d_intI, d_intB, d_abs, d_gcd, d_max2, d_min2, d_sumI, d_anyB, d_allB, d_maxL, d_minL, d_listL, d_listT, d_tupL, d_tupT, d_idxL, d_idxT, d_lstL, d_lstT, d_revL, d_itL, d_itT, d_rng1, d_rng2, d_rng3, d_enum1, d_zip2, d_rev1L, d_rev1T, d_cutL, d_cutT, d_rep, d_mTup, d_mLst, d_setD, d_scN, d_scB, d_scI, d_scS, d_isN, d_isNN, d_isB, d_isNB, d_nN, d_nB, d_nI, d_nS, d_nL, d_nT, if_true, if_false, ite_true, ite_false, reduceIte, List.length_cons, List.length_nil, Nat.zero_add, Nat.reduceAdd, Nat.reduceSub, Nat.reduceEqDiff, List.map_cons, List.map_nil, List.cons_append, List.nil_append, List.replicate, Option.map_some, Option.bind_some, Option.some.injEq, Bool.not_true, Bool.not_false, ne_eq, Bool.false_eq_true, Int.reduceEq, Int.reduceLT, Int.reduceLE, Int.reduceNeg, Int.reduceAdd, Int.reduceSub, Int.reduceMul, Int.reduceToNat, Int.toNat_natCast, Nat.reduceLT, Nat.reduceLeDiff, not_false_eq_true, not_true_eq_false, decide_true, decide_false, List.length_map, List.map_append, fmod_pos, fdiv_pos, and_true, true_and, and_self, Bool.and_true, Bool.or_false, Bool.and_false, Bool.or_true, Bool.true_and, Bool.false_and, ty_li_none, ty_li_bool, ty_li_int, ty_li_str, ty_li_list, ty_li_tuple, ty_tu_none, ty_tu_bool, ty_tu_int, ty_tu_str, ty_tu_list, ty_tu_tuple, ty_bo_none, ty_bo_bool, ty_bo_int, ty_bo_str, ty_bo_list, ty_bo_tuple, ty_in_none, ty_in_bool, ty_in_int, ty_in_str, ty_in_list, ty_in_tuple, ty_st_none, ty_st_bool, ty_st_int, ty_st_str, ty_st_list, ty_st_tuple, eq_int, ne_int, eq_bl, ne_bl, eq_st, ne_st, eq_li, ne_li, at_0, at_1, at_2, at_3, at_4, at_5, in_li, notin_li, c_z, c_s, gx_v, gx_s, e_mIsX, e_sTry, tc_ok, tc_exc, cm_nil, cm_cons, ex_ok, dx_nil, dx_v, dx_o, dx_x, dx_n, at_exx, Int.cast_ofNat_Int, e_mLrg1, e_mLrg2, d_lrg, e_mCat]
noncomputable def F_law_cell (script : (List Int)) (k : Int) : Int :=
  (if (decide (k < (script.length : Int))) = true then (script.getD (k).toNat 0)
  else 0)
def S_law_cell (script : (List Int)) (k : Int) : Prop :=
  ((decide (k < (script.length : Int))) = true → ixOk script.length k)
theorem T_law_cell (script : (List Int)) (k : Int) (h : S_law_cell script k) : m_law_cell [(encL PyData.int) script, PyData.int k] = .ok (PyData.int (F_law_cell script k)) :=
  t_fn (b := b_law_cell) (eτ := PyData.int) rfl
  ((ts_p [vv (encL PyData.int) script, vv PyData.int k] rfl (ts_if (QQ := QF PyData.int) (t_B (t_2 (t_get rfl) (t_call (t_cons (t_get rfl) t_nil) f_lenL) f_lt)) (fun hc1 => (ts_retF (t_call (t_cons (t_2 (t_get rfl) (t_get rfl) (f_idxL (d := 0) (h hc1))) t_nil) f_intI)))
  (fun hc1 => (ts_nx (ts_p [vv (encL PyData.int) script, vv PyData.int k] rfl (ts_end (ts_retF t_c))))))))
noncomputable def F_law_numbers (cell : Int) (count : Int) (limit : Int) : (List Int) :=
  (if (decide ((10 ^ 18) ≤ cell)) = true then (bnd ((rngI 0 count).foldl (fun (s : Int × (List Int)) (k : Int) =>
  (bnd (s.1 / limit) fun (cell2 : Int) =>
  (cell2, (s.2 ++ [(s.1 % limit)])))) (cell, [])) fun (s2 : Int × (List Int)) =>
  s2.2)
  else (bnd ((rngI 0 count).foldl (fun (found : (List Int)) (k2 : Int) =>
  (bnd ((((cell * 48271) + (k2 * 69621)) + 7) % 2147483647) fun (mixed : Int) =>
  (bnd (((((mixed * mixed) + (mixed * 40692)) + (k2 * 16807)) + 11) % 2147483399) fun (mixed2 : Int) =>
  (found ++ [((mixed2 / 32) % limit)])))) []) fun (found2 : (List Int)) =>
  found2))
def S_law_numbers (cell : Int) (count : Int) (limit : Int) : Prop :=
  ((decide ((10 ^ 18) ≤ cell)) = true → r62 count ∧ LpS (fun (s : Int × (List Int)) (k : Int) => 0 < limit ∧ s.2.length < sizeLine ∧ dvOk limit) (fun (s : Int × (List Int)) (k : Int) =>
  (bnd (s.1 / limit) fun (cell2 : Int) =>
  (cell2, (s.2 ++ [(s.1 % limit)])))) (rngI 0 count) (cell, [])) ∧ ((decide ((10 ^ 18) ≤ cell)) = false → r62 count ∧ LpS (fun (found : (List Int)) (k2 : Int) => (bnd ((((cell * 48271) + (k2 * 69621)) + 7) % 2147483647) fun (mixed : Int) => mulOk mixed mixed ∧ (bnd (((((mixed * mixed) + (mixed * 40692)) + (k2 * 16807)) + 11) % 2147483399) fun (mixed2 : Int) => 0 < limit ∧ found.length < sizeLine))) (fun (found : (List Int)) (k2 : Int) =>
  (bnd ((((cell * 48271) + (k2 * 69621)) + 7) % 2147483647) fun (mixed : Int) =>
  (bnd (((((mixed * mixed) + (mixed * 40692)) + (k2 * 16807)) + 11) % 2147483399) fun (mixed2 : Int) =>
  (found ++ [((mixed2 / 32) % limit)])))) (rngI 0 count) [])
theorem T_law_numbers (cell : Int) (count : Int) (limit : Int) (h : S_law_numbers cell count limit) : m_law_numbers [PyData.int cell, PyData.int count, PyData.int limit] = .ok ((encL PyData.int) (F_law_numbers cell count limit)) :=
  t_fn (b := b_law_numbers) (eτ := (encL PyData.int)) rfl
  ((ts_p [vv PyData.int cell, vv PyData.int count, vv PyData.int limit, none, none, none] rfl (ts_setO (t_coM0 (t_dsp t_nil (ln_r rfl))) (ts_p [vv PyData.int cell, vv PyData.int count, vv PyData.int limit, vo PyData.int [], none, none] rfl (ts_if (QQ := QF (encL PyData.int)) (t_B (t_2 (t_get rfl) (t_2 t_c t_c (f_pow (k := 18) (by decide) rfl)) f_ge)) (fun hc1 => (ts_as (ts_forG (QQ := QF (encL PyData.int)) (e := PyData.int) (xs := (rngI 0 count)) (eτ := eE) (F := (fun (s : Int × (List Int)) (k : Int) =>
  (bnd (s.1 / limit) fun (cell2 : Int) =>
  (cell2, (s.2 ++ [(s.1 % limit)]))))) (S := (fun (s : Int × (List Int)) (k : Int) => 0 < limit ∧ s.2.length < sizeLine ∧ dvOk limit)) (E := fun (s : Int × (List Int)) => [vv PyData.int s.1, vv PyData.int count, vv PyData.int limit, vo PyData.int s.2, none, none]) (.is (.is (.is (.is (.any (.is .nil)))))) (t_wk (t_cons (t_get rfl) t_nil) (f_rng1 (h.1 hc1).1)) (h.1 hc1).2 (fun s k => tg_n) (fun s k hx3 hb2 =>
  (ts_p [vv PyData.int s.1, vv PyData.int count, vv PyData.int limit, vo PyData.int s.2, vv PyData.int k, none] rfl (ts_app (e := PyData.int) rfl (t_2 (t_call (t_cons (t_get rfl) t_nil) f_intI) (t_get rfl) (f_mod hb2.1)) hb2.2.1 (ts_p [vv PyData.int s.1, vv PyData.int count, vv PyData.int limit, vo PyData.int (s.2 ++ [(s.1 % limit)]), vv PyData.int k, none] rfl (ts_end (ts_setG (QQ := fun z => QL _ eE (Stp.nx z)) (eγ := PyData.int) (t_2 (t_call (t_cons (t_get rfl) t_nil) f_intI) (t_get rfl) (f_div hb2.2.2)) (show bnd _ (fun _ => True) from trivial) (fun cell2 hb4 =>
  (ts_p [vv PyData.int cell2, vv PyData.int count, vv PyData.int limit, vo PyData.int (s.2 ++ [(s.1 % limit)]), vv PyData.int k, none] rfl (ts_finL (.is (.is (.is (.is (.any (.is .nil))))))))))))))) (show bnd _ (fun _ => True) from trivial) (fun s2 hb5 =>
  (ts_p [vv PyData.int s2.1, vv PyData.int count, vv PyData.int limit, vo PyData.int s2.2, none, none] rfl (ts_fz (ts_p [vv PyData.int s2.1, vv PyData.int count, vv PyData.int limit, vv (encL PyData.int) s2.2, none, none] rfl (ts_retF (t_get rfl)))))))))
  (fun hc1 => (ts_nx (ts_p [vv PyData.int cell, vv PyData.int count, vv PyData.int limit, vo PyData.int [], none, none] rfl (ts_forG (QQ := QF (encL PyData.int)) (e := PyData.int) (xs := (rngI 0 count)) (eτ := eE) (F := (fun (found : (List Int)) (k2 : Int) =>
  (bnd ((((cell * 48271) + (k2 * 69621)) + 7) % 2147483647) fun (mixed : Int) =>
  (bnd (((((mixed * mixed) + (mixed * 40692)) + (k2 * 16807)) + 11) % 2147483399) fun (mixed2 : Int) =>
  (found ++ [((mixed2 / 32) % limit)]))))) (S := (fun (found : (List Int)) (k2 : Int) => (bnd ((((cell * 48271) + (k2 * 69621)) + 7) % 2147483647) fun (mixed : Int) => mulOk mixed mixed ∧ (bnd (((((mixed * mixed) + (mixed * 40692)) + (k2 * 16807)) + 11) % 2147483399) fun (mixed2 : Int) => 0 < limit ∧ found.length < sizeLine)))) (E := fun (found : (List Int)) => [vv PyData.int cell, vv PyData.int count, vv PyData.int limit, vo PyData.int found, none, none]) (.is (.is (.is (.is (.any (.any .nil)))))) (t_wk (t_cons (t_get rfl) t_nil) (f_rng1 (h.2 hc1).1)) (h.2 hc1).2 (fun found k2 => tg_n) (fun found k2 hx7 hb6 =>
  (ts_p [vv PyData.int cell, vv PyData.int count, vv PyData.int limit, vo PyData.int found, vv PyData.int k2, none] rfl (ts_setG (QQ := fun z => QL _ eE (Stp.nx z)) (eγ := PyData.int) (t_2 (t_call (t_cons (t_2 (t_2 (t_2 (t_get rfl) t_c (f_mul (mulOk_r (by decide) (by decide)))) (t_2 (t_get rfl) t_c (f_mul (mulOk_r (by decide) (by decide)))) f_add) t_c f_add) t_nil) f_intI) t_c (f_mod (by decide))) hb6 (fun mixed hb8 =>
  (ts_p [vv PyData.int cell, vv PyData.int count, vv PyData.int limit, vo PyData.int found, vv PyData.int k2, vv PyData.int mixed] rfl (ts_setG (QQ := fun z => QL _ eE (Stp.nx z)) (eγ := PyData.int) (t_2 (t_call (t_cons (t_2 (t_2 (t_2 (t_2 (t_get rfl) (t_get rfl) (f_mul hb8.1)) (t_2 (t_get rfl) t_c (f_mul (mulOk_r (by decide) (by decide)))) f_add) (t_2 (t_get rfl) t_c (f_mul (mulOk_r (by decide) (by decide)))) f_add) t_c f_add) t_nil) f_intI) t_c (f_mod (by decide))) hb8.2 (fun mixed2 hb9 =>
  (ts_p [vv PyData.int cell, vv PyData.int count, vv PyData.int limit, vo PyData.int found, vv PyData.int k2, vv PyData.int mixed2] rfl (ts_end (ts_app (e := PyData.int) rfl (t_2 (t_call (t_cons (t_2 (t_get rfl) t_c (f_div (dvOk_s (by decide) (by decide)))) t_nil) f_intI) (t_get rfl) (f_mod hb9.1)) hb9.2 (ts_p [vv PyData.int cell, vv PyData.int count, vv PyData.int limit, vo PyData.int (found ++ [((mixed2 / 32) % limit)]), vv PyData.int k2, vv PyData.int mixed2] rfl (ts_finL (.is (.is (.is (.is (.any (.any .nil)))))))))))))))))) (show bnd _ (fun _ => True) from trivial) (fun found2 hb10 =>
  (ts_p [vv PyData.int cell, vv PyData.int count, vv PyData.int limit, vo PyData.int found2, none, none] rfl (ts_end (ts_fz (ts_p [vv PyData.int cell, vv PyData.int count, vv PyData.int limit, vv (encL PyData.int) found2, none, none] rfl (ts_retF (t_get rfl))))))))))))))))
noncomputable def F_law_line (script : (List Int)) (at_ : Int) (most : Int) : ((List (Int × Int)) × Int) :=
  (bnd (F_law_numbers (F_law_cell script at_) 90 5040) fun (draws : (List Int)) =>
  (bnd (((draws.getD 0 0) % 50) - 20) fun (x : Int) =>
  (bnd ((rngI 0 (2 + ((draws.getD 1 0) % (most - 1)))).foldl (fun (s : Int × (List (Int × Int))) (k : Int) =>
  (bnd ((s.1 + 1) + ((draws.getD ((5 + (2 * k))).toNat 0) % (([4, 30, 300] : List Int).getD ((((draws.getD 2 0) / 3) % 3)).toNat 0))) fun (x2 : Int) =>
  (x2, (s.2 ++ [(s.1, (((draws.getD ((4 + (2 * k))).toNat 0) % (([9, 60, 400] : List Int).getD (((draws.getD 2 0) % 3)).toNat 0)) - ((draws.getD 2 0) % 40)))])))) (x, [])) fun (s2 : Int × (List (Int × Int))) =>
  (s2.2, (([0, 0, 1, 2, 7] : List Int).getD (((draws.getD 3 0) % 5)).toNat 0)))))
def S_law_line (script : (List Int)) (at_ : Int) (most : Int) : Prop :=
  S_law_cell script at_ ∧ S_law_numbers (F_law_cell script at_) 90 5040 ∧ (bnd (F_law_numbers (F_law_cell script at_) 90 5040) fun (draws : (List Int)) => 0 < draws.length ∧ (bnd (((draws.getD 0 0) % 50) - 20) fun (x : Int) => 1 < draws.length ∧ 0 < (most - 1) ∧ r62 (2 + ((draws.getD 1 0) % (most - 1))) ∧ LpS (fun (s : Int × (List (Int × Int))) (k : Int) => ixOk draws.length (4 + (2 * k)) ∧ 2 < draws.length ∧ 0 < (([9, 60, 400] : List Int).getD (((draws.getD 2 0) % 3)).toNat 0) ∧ s.2.length < sizeLine ∧ ixOk draws.length (5 + (2 * k)) ∧ 0 < (([4, 30, 300] : List Int).getD ((((draws.getD 2 0) / 3) % 3)).toNat 0)) (fun (s : Int × (List (Int × Int))) (k : Int) =>
  (bnd ((s.1 + 1) + ((draws.getD ((5 + (2 * k))).toNat 0) % (([4, 30, 300] : List Int).getD ((((draws.getD 2 0) / 3) % 3)).toNat 0))) fun (x2 : Int) =>
  (x2, (s.2 ++ [(s.1, (((draws.getD ((4 + (2 * k))).toNat 0) % (([9, 60, 400] : List Int).getD (((draws.getD 2 0) % 3)).toNat 0)) - ((draws.getD 2 0) % 40)))])))) (rngI 0 (2 + ((draws.getD 1 0) % (most - 1)))) (x, []) ∧ (bnd ((rngI 0 (2 + ((draws.getD 1 0) % (most - 1)))).foldl (fun (s : Int × (List (Int × Int))) (k : Int) =>
  (bnd ((s.1 + 1) + ((draws.getD ((5 + (2 * k))).toNat 0) % (([4, 30, 300] : List Int).getD ((((draws.getD 2 0) / 3) % 3)).toNat 0))) fun (x2 : Int) =>
  (x2, (s.2 ++ [(s.1, (((draws.getD ((4 + (2 * k))).toNat 0) % (([9, 60, 400] : List Int).getD (((draws.getD 2 0) % 3)).toNat 0)) - ((draws.getD 2 0) % 40)))])))) (x, [])) fun (s2 : Int × (List (Int × Int))) => 3 < draws.length)))
theorem T_law_line (script : (List Int)) (at_ : Int) (most : Int) (h : S_law_line script at_ most) : m_law_line [(encL PyData.int) script, PyData.int at_, PyData.int most] = .ok ((enc2 (encL (enc2 PyData.int PyData.int)) PyData.int) (F_law_line script at_ most)) :=
  t_fn (b := b_law_line) (eτ := (enc2 (encL (enc2 PyData.int PyData.int)) PyData.int)) rfl
  ((ts_p [vv (encL PyData.int) script, vv PyData.int at_, vv PyData.int most, none, none, none, none] rfl (ts_setG (QQ := QF (enc2 (encL (enc2 PyData.int PyData.int)) PyData.int)) (eγ := (encL PyData.int)) (t_seq (t_cons (t_seq (t_cons (t_get rfl) (t_cons (t_get rfl) t_nil)) (T_law_cell _ _ h.1)) (t_cons t_c (t_cons t_c t_nil))) (T_law_numbers _ _ _ h.2.1)) h.2.2 (fun draws hb1 =>
  (ts_p [vv (encL PyData.int) script, vv PyData.int at_, vv PyData.int most, vv (encL PyData.int) draws, none, none, none] rfl (ts_setG (QQ := QF (enc2 (encL (enc2 PyData.int PyData.int)) PyData.int)) (eγ := PyData.int) (t_2 (t_2 (t_2 (t_get rfl) t_c (f_idxK (d := 0) 0 rfl hb1.1)) t_c (f_mod (by decide))) t_c f_sub) hb1.2 (fun x hb2 =>
  (ts_p [vv (encL PyData.int) script, vv PyData.int at_, vv PyData.int most, vv (encL PyData.int) draws, vv PyData.int x, none, none] rfl (ts_setO (t_coM0 (t_dsp t_nil (ln_r rfl))) (ts_p [vv (encL PyData.int) script, vv PyData.int at_, vv PyData.int most, vv (encL PyData.int) draws, vv PyData.int x, vo (enc2 PyData.int PyData.int) [], none] rfl (ts_forG (QQ := QF (enc2 (encL (enc2 PyData.int PyData.int)) PyData.int)) (e := PyData.int) (xs := (rngI 0 (2 + ((draws.getD 1 0) % (most - 1))))) (eτ := eE) (F := (fun (s : Int × (List (Int × Int))) (k : Int) =>
  (bnd ((s.1 + 1) + ((draws.getD ((5 + (2 * k))).toNat 0) % (([4, 30, 300] : List Int).getD ((((draws.getD 2 0) / 3) % 3)).toNat 0))) fun (x2 : Int) =>
  (x2, (s.2 ++ [(s.1, (((draws.getD ((4 + (2 * k))).toNat 0) % (([9, 60, 400] : List Int).getD (((draws.getD 2 0) % 3)).toNat 0)) - ((draws.getD 2 0) % 40)))]))))) (S := (fun (s : Int × (List (Int × Int))) (k : Int) => ixOk draws.length (4 + (2 * k)) ∧ 2 < draws.length ∧ 0 < (([9, 60, 400] : List Int).getD (((draws.getD 2 0) % 3)).toNat 0) ∧ s.2.length < sizeLine ∧ ixOk draws.length (5 + (2 * k)) ∧ 0 < (([4, 30, 300] : List Int).getD ((((draws.getD 2 0) / 3) % 3)).toNat 0))) (E := fun (s : Int × (List (Int × Int))) => [vv (encL PyData.int) script, vv PyData.int at_, vv PyData.int most, vv (encL PyData.int) draws, vv PyData.int s.1, vo (enc2 PyData.int PyData.int) s.2, none]) (.is (.is (.is (.is (.is (.is (.any .nil))))))) (t_wk (t_cons (t_2 t_c (t_2 (t_2 (t_get rfl) t_c (f_idxK (d := 0) 1 rfl hb2.1)) (t_2 (t_get rfl) t_c f_sub) (f_mod hb2.2.1)) f_add) t_nil) (f_rng1 hb2.2.2.1)) hb2.2.2.2.1 (fun s k => tg_n) (fun s k hx4 hb3 =>
  (ts_p [vv (encL PyData.int) script, vv PyData.int at_, vv PyData.int most, vv (encL PyData.int) draws, vv PyData.int s.1, vo (enc2 PyData.int PyData.int) s.2, vv PyData.int k] rfl (ts_app (e := (enc2 PyData.int PyData.int)) rfl (t_as (enc2 PyData.int PyData.int) (s.1, (((draws.getD ((4 + (2 * k))).toNat 0) % (([9, 60, 400] : List Int).getD (((draws.getD 2 0) % 3)).toNat 0)) - ((draws.getD 2 0) % 40))) (t_seq (t_cons (t_get rfl) (t_cons (t_2 (t_2 (t_2 (t_get rfl) (t_2 t_c (t_2 t_c (t_get rfl) (f_mul (mulOk_l (by decide) (by decide)))) f_add) (f_idxL (d := 0) hb3.1)) (t_2 (t_as (encL PyData.int) ([9, 60, 400] : List Int) (t_seq (t_cons t_c (t_cons t_c (t_cons t_c t_nil))) (mLst_ok rfl))) (t_2 (t_2 (t_get rfl) t_c (f_idxK (d := 0) 2 rfl hb3.2.1)) t_c (f_mod (by decide))) (f_idxL (d := 0) (ix_mod (n := 3) (by decide) (by decide)))) (f_mod hb3.2.2.1)) (t_2 (t_2 (t_get rfl) t_c (f_idxK (d := 0) 2 rfl hb3.2.1)) t_c (f_mod (by decide))) f_sub) t_nil)) (mTup_ok rfl))) hb3.2.2.2.1 (ts_p [vv (encL PyData.int) script, vv PyData.int at_, vv PyData.int most, vv (encL PyData.int) draws, vv PyData.int s.1, vo (enc2 PyData.int PyData.int) (s.2 ++ [(s.1, (((draws.getD ((4 + (2 * k))).toNat 0) % (([9, 60, 400] : List Int).getD (((draws.getD 2 0) % 3)).toNat 0)) - ((draws.getD 2 0) % 40)))]), vv PyData.int k] rfl (ts_end (ts_setG (QQ := fun z => QL _ eE (Stp.nx z)) (eγ := PyData.int) (t_2 (t_2 (t_get rfl) t_c f_add) (t_2 (t_2 (t_get rfl) (t_2 t_c (t_2 t_c (t_get rfl) (f_mul (mulOk_l (by decide) (by decide)))) f_add) (f_idxL (d := 0) hb3.2.2.2.2.1)) (t_2 (t_as (encL PyData.int) ([4, 30, 300] : List Int) (t_seq (t_cons t_c (t_cons t_c (t_cons t_c t_nil))) (mLst_ok rfl))) (t_2 (t_2 (t_2 (t_get rfl) t_c (f_idxK (d := 0) 2 rfl hb3.2.1)) t_c (f_div (dvOk_s (by decide) (by decide)))) t_c (f_mod (by decide))) (f_idxL (d := 0) (ix_mod (n := 3) (by decide) (by decide)))) (f_mod hb3.2.2.2.2.2)) f_add) (show bnd _ (fun _ => True) from trivial) (fun x2 hb5 =>
  (ts_p [vv (encL PyData.int) script, vv PyData.int at_, vv PyData.int most, vv (encL PyData.int) draws, vv PyData.int x2, vo (enc2 PyData.int PyData.int) (s.2 ++ [(s.1, (((draws.getD ((4 + (2 * k))).toNat 0) % (([9, 60, 400] : List Int).getD (((draws.getD 2 0) % 3)).toNat 0)) - ((draws.getD 2 0) % 40)))]), vv PyData.int k] rfl (ts_finL (.is (.is (.is (.is (.is (.is (.any .nil)))))))))))))))) hb2.2.2.2.2 (fun s2 hb6 =>
  (ts_p [vv (encL PyData.int) script, vv PyData.int at_, vv PyData.int most, vv (encL PyData.int) draws, vv PyData.int s2.1, vo (enc2 PyData.int PyData.int) s2.2, none] rfl (ts_end (ts_fz (ts_p [vv (encL PyData.int) script, vv PyData.int at_, vv PyData.int most, vv (encL PyData.int) draws, vv PyData.int s2.1, vv (encL (enc2 PyData.int PyData.int)) s2.2, none] rfl (ts_retF (t_as (enc2 (encL (enc2 PyData.int PyData.int)) PyData.int) (s2.2, (([0, 0, 1, 2, 7] : List Int).getD (((draws.getD 3 0) % 5)).toNat 0)) (t_seq (t_cons (t_get rfl) (t_cons (t_2 (t_as (encL PyData.int) ([0, 0, 1, 2, 7] : List Int) (t_seq (t_cons t_c (t_cons t_c (t_cons t_c (t_cons t_c (t_cons t_c t_nil))))) (mLst_ok rfl))) (t_2 (t_2 (t_get rfl) t_c (f_idxK (d := 0) 3 rfl hb6)) t_c (f_mod (by decide))) (f_idxL (d := 0) (ix_mod (n := 5) (by decide) (by decide)))) t_nil)) (mTup_ok rfl))))))))))))))))))))
noncomputable def F_law_place (line : ((List (Int × Int)) × Int)) (one : Int) (other : Int) : Rat :=
  (bnd (line.1.getD 0 (0, 0)).1 fun (low : Int) =>
  (bnd ((line.1.getD (((line.1.length : Int) - 1)).toNat (0, 0)).1 - low) fun (wide : Int) =>
  (if (decide ((one % 7) = 0)) = true then ((((line.1.getD (((one / 7) % (line.1.length : Int))).toNat (0, 0)).1 : Int)) : Rat)
  else (bnd (1 + ((one / 7) % 6)) fun (bottom : Int) =>
  (((((low * bottom) + (other % ((wide * bottom) + 1))) : Int) : Rat) / ((bottom : Int) : Rat))))))
def S_law_place (line : ((List (Int × Int)) × Int)) (one : Int) (other : Int) : Prop :=
  0 < line.1.length ∧ (bnd (line.1.getD 0 (0, 0)).1 fun (low : Int) => ixOk line.1.length ((line.1.length : Int) - 1) ∧ (bnd ((line.1.getD (((line.1.length : Int) - 1)).toNat (0, 0)).1 - low) fun (wide : Int) => ((decide ((one % 7) = 0)) = true → 0 < (line.1.length : Int) ∧ ixOk line.1.length ((one / 7) % (line.1.length : Int))) ∧ ((decide ((one % 7) = 0)) = false → (bnd (1 + ((one / 7) % 6)) fun (bottom : Int) => mulOk low bottom ∧ mulOk wide bottom ∧ 0 < ((wide * bottom) + 1) ∧ Qf ((low * bottom) + (other % ((wide * bottom) + 1))) bottom))))
theorem T_law_place (line : ((List (Int × Int)) × Int)) (one : Int) (other : Int) (h : S_law_place line one other) : m_law_place [(enc2 (encL (enc2 PyData.int PyData.int)) PyData.int) line, PyData.int one, PyData.int other] = .ok (encQ (F_law_place line one other)) :=
  t_fn (b := b_law_place) (eτ := encQ) rfl
  ((ts_p [vv (enc2 (encL (enc2 PyData.int PyData.int)) PyData.int) line, vv PyData.int one, vv PyData.int other, none, none, none, none] rfl (ts_set (t_2 (t_get rfl) t_c (f_i0 _ _)) (ts_p [vv (enc2 (encL (enc2 PyData.int PyData.int)) PyData.int) line, vv PyData.int one, vv PyData.int other, vv (encL (enc2 PyData.int PyData.int)) line.1, none, none, none] rfl (ts_setG (QQ := QF encQ) (eγ := PyData.int) (t_2 (t_2 (t_get rfl) t_c (f_idxK (d := (0, 0)) 0 rfl h.1)) t_c (f_i0 _ _)) h.2 (fun low hb1 =>
  (ts_p [vv (enc2 (encL (enc2 PyData.int PyData.int)) PyData.int) line, vv PyData.int one, vv PyData.int other, vv (encL (enc2 PyData.int PyData.int)) line.1, vv PyData.int low, none, none] rfl (ts_setG (QQ := QF encQ) (eγ := PyData.int) (t_2 (t_2 (t_2 (t_get rfl) (t_2 (t_call (t_cons (t_get rfl) t_nil) f_lenL) t_c f_sub) (f_idxL (d := (0, 0)) hb1.1)) t_c (f_i0 _ _)) (t_get rfl) f_sub) hb1.2 (fun wide hb2 =>
  (ts_p [vv (enc2 (encL (enc2 PyData.int PyData.int)) PyData.int) line, vv PyData.int one, vv PyData.int other, vv (encL (enc2 PyData.int PyData.int)) line.1, vv PyData.int low, vv PyData.int wide, none] rfl (ts_if (QQ := QF encQ) (t_B (t_2 (t_2 (t_get rfl) t_c (f_mod (by decide))) t_c (f_eq eqe_I))) (fun hc3 => (ts_retF (t_Q1 (line.1.getD (((one / 7) % (line.1.length : Int))).toNat (0, 0)).1 (t_as (enc2 PyData.int PyData.int) ((line.1.getD (((one / 7) % (line.1.length : Int))).toNat (0, 0)).1, 1) (t_seq (t_cons (t_2 (t_2 (t_get rfl) (t_2 (t_2 (t_get rfl) t_c (f_div (dvOk_s (by decide) (by decide)))) (t_call (t_cons (t_get rfl) t_nil) f_lenL) (f_mod (hb2.1 hc3).1)) (f_idxL (d := (0, 0)) (hb2.1 hc3).2)) t_c (f_i0 _ _)) (t_cons t_c t_nil)) (mTup_ok rfl))))))
  (fun hc3 => (ts_nx (ts_p [vv (enc2 (encL (enc2 PyData.int PyData.int)) PyData.int) line, vv PyData.int one, vv PyData.int other, vv (encL (enc2 PyData.int PyData.int)) line.1, vv PyData.int low, vv PyData.int wide, none] rfl (ts_setG (QQ := QF encQ) (eγ := PyData.int) (t_2 t_c (t_2 (t_2 (t_get rfl) t_c (f_div (dvOk_s (by decide) (by decide)))) t_c (f_mod (by decide))) f_add) (hb2.2 hc3) (fun bottom hb4 =>
  (ts_p [vv (enc2 (encL (enc2 PyData.int PyData.int)) PyData.int) line, vv PyData.int one, vv PyData.int other, vv (encL (enc2 PyData.int PyData.int)) line.1, vv PyData.int low, vv PyData.int wide, vv PyData.int bottom] rfl (ts_end (ts_retF (t_seq (t_cons (t_2 (t_2 (t_get rfl) (t_get rfl) (f_mul hb4.1)) (t_2 (t_get rfl) (t_2 (t_2 (t_get rfl) (t_get rfl) (f_mul hb4.2.1)) t_c f_add) (f_mod hb4.2.2.1)) f_add) (t_cons (t_get rfl) t_nil)) (T_law_frac _ _ hb4.2.2.2)))))))))))))))))))))
noncomputable def F_law_loads (script : (List Int)) (at_ : Int) (line : ((List (Int × Int)) × Int)) (most : Int) : (List (Rat × Int)) :=
  (bnd (F_law_numbers (F_law_cell script at_) (2 + (3 * most)) 5040) fun (draws : (List Int)) =>
  (bnd ((rngI 0 ((draws.getD 0 0) % (most + 1))).foldl (fun (found : (List (Rat × Int))) (k : Int) =>
  (bnd ((F_law_place line (draws.getD ((2 + (3 * k))).toNat 0) (draws.getD ((3 + (3 * k))).toNat 0)), (1 + ((draws.getD ((4 + (3 * k))).toNat 0) % (([4, 60, 5000] : List Int).getD (((draws.getD 1 0) % 3)).toNat 0)))) fun (load : (Rat × Int)) =>
  (bnd (((found.filter fun (other : (Rat × Int)) => (!(decide (load.1 < other.1)))).map fun (other : (Rat × Int)) => other).length : Int) fun (spot : Int) =>
  (bnd ((((found.drop 0).take ((spot).toNat - 0)) ++ ([load] : List (Rat × Int))) ++ (found.drop (spot).toNat)) fun (found2 : (List (Rat × Int))) =>
  found2)))) []) fun (found3 : (List (Rat × Int))) =>
  found3))
def S_law_loads (script : (List Int)) (at_ : Int) (line : ((List (Int × Int)) × Int)) (most : Int) : Prop :=
  S_law_cell script at_ ∧ S_law_numbers (F_law_cell script at_) (2 + (3 * most)) 5040 ∧ (bnd (F_law_numbers (F_law_cell script at_) (2 + (3 * most)) 5040) fun (draws : (List Int)) => 0 < draws.length ∧ 0 < (most + 1) ∧ r62 ((draws.getD 0 0) % (most + 1)) ∧ LpS (fun (found : (List (Rat × Int))) (k : Int) => ixOk draws.length (2 + (3 * k)) ∧ ixOk draws.length (3 + (3 * k)) ∧ S_law_place line (draws.getD ((2 + (3 * k))).toNat 0) (draws.getD ((3 + (3 * k))).toNat 0) ∧ ixOk draws.length (4 + (3 * k)) ∧ 1 < draws.length ∧ 0 < (([4, 60, 5000] : List Int).getD (((draws.getD 1 0) % 3)).toNat 0) ∧ (bnd ((F_law_place line (draws.getD ((2 + (3 * k))).toNat 0) (draws.getD ((3 + (3 * k))).toNat 0)), (1 + ((draws.getD ((4 + (3 * k))).toNat 0) % (([4, 60, 5000] : List Int).getD (((draws.getD 1 0) % 3)).toNat 0)))) fun (load : (Rat × Int)) => found.length ≤ sizeLine ∧ (∀ other ∈ found, Q2 load.1 other.1) ∧ (bnd (((found.filter fun (other : (Rat × Int)) => (!(decide (load.1 < other.1)))).map fun (other : (Rat × Int)) => other).length : Int) fun (spot : Int) => 0 ≤ spot ∧ ((found.drop 0).take ((spot).toNat - 0)).length + ([load] : List (Rat × Int)).length ≤ sizeLine ∧ (((found.drop 0).take ((spot).toNat - 0)) ++ ([load] : List (Rat × Int))).length + (found.drop (spot).toNat).length ≤ sizeLine))) (fun (found : (List (Rat × Int))) (k : Int) =>
  (bnd ((F_law_place line (draws.getD ((2 + (3 * k))).toNat 0) (draws.getD ((3 + (3 * k))).toNat 0)), (1 + ((draws.getD ((4 + (3 * k))).toNat 0) % (([4, 60, 5000] : List Int).getD (((draws.getD 1 0) % 3)).toNat 0)))) fun (load : (Rat × Int)) =>
  (bnd (((found.filter fun (other : (Rat × Int)) => (!(decide (load.1 < other.1)))).map fun (other : (Rat × Int)) => other).length : Int) fun (spot : Int) =>
  (bnd ((((found.drop 0).take ((spot).toNat - 0)) ++ ([load] : List (Rat × Int))) ++ (found.drop (spot).toNat)) fun (found2 : (List (Rat × Int))) =>
  found2)))) (rngI 0 ((draws.getD 0 0) % (most + 1))) [])
theorem T_law_loads (script : (List Int)) (at_ : Int) (line : ((List (Int × Int)) × Int)) (most : Int) (h : S_law_loads script at_ line most) : m_law_loads [(encL PyData.int) script, PyData.int at_, (enc2 (encL (enc2 PyData.int PyData.int)) PyData.int) line, PyData.int most] = .ok ((encL (enc2 encQ PyData.int)) (F_law_loads script at_ line most)) :=
  t_fn (b := b_law_loads) (eτ := (encL (enc2 encQ PyData.int))) rfl
  ((ts_p [vv (encL PyData.int) script, vv PyData.int at_, vv (enc2 (encL (enc2 PyData.int PyData.int)) PyData.int) line, vv PyData.int most, none, none, none, none, none, none] rfl (ts_setG (QQ := QF (encL (enc2 encQ PyData.int))) (eγ := (encL PyData.int)) (t_seq (t_cons (t_seq (t_cons (t_get rfl) (t_cons (t_get rfl) t_nil)) (T_law_cell _ _ h.1)) (t_cons (t_2 t_c (t_2 t_c (t_get rfl) (f_mul (mulOk_l (by decide) (by decide)))) f_add) (t_cons t_c t_nil))) (T_law_numbers _ _ _ h.2.1)) h.2.2 (fun draws hb1 =>
  (ts_p [vv (encL PyData.int) script, vv PyData.int at_, vv (enc2 (encL (enc2 PyData.int PyData.int)) PyData.int) line, vv PyData.int most, vv (encL PyData.int) draws, none, none, none, none, none] rfl (ts_set (t_as (encL PyData.int) [] (t_seq t_nil (mLst_ok rfl))) (ts_p [vv (encL PyData.int) script, vv PyData.int at_, vv (enc2 (encL (enc2 PyData.int PyData.int)) PyData.int) line, vv PyData.int most, vv (encL PyData.int) draws, vv (encL PyData.int) [], none, none, none, none] rfl (ts_forG (QQ := QF (encL (enc2 encQ PyData.int))) (e := PyData.int) (xs := (rngI 0 ((draws.getD 0 0) % (most + 1)))) (eτ := eE) (F := (fun (found : (List (Rat × Int))) (k : Int) =>
  (bnd ((F_law_place line (draws.getD ((2 + (3 * k))).toNat 0) (draws.getD ((3 + (3 * k))).toNat 0)), (1 + ((draws.getD ((4 + (3 * k))).toNat 0) % (([4, 60, 5000] : List Int).getD (((draws.getD 1 0) % 3)).toNat 0)))) fun (load : (Rat × Int)) =>
  (bnd (((found.filter fun (other : (Rat × Int)) => (!(decide (load.1 < other.1)))).map fun (other : (Rat × Int)) => other).length : Int) fun (spot : Int) =>
  (bnd ((((found.drop 0).take ((spot).toNat - 0)) ++ ([load] : List (Rat × Int))) ++ (found.drop (spot).toNat)) fun (found2 : (List (Rat × Int))) =>
  found2))))) (S := (fun (found : (List (Rat × Int))) (k : Int) => ixOk draws.length (2 + (3 * k)) ∧ ixOk draws.length (3 + (3 * k)) ∧ S_law_place line (draws.getD ((2 + (3 * k))).toNat 0) (draws.getD ((3 + (3 * k))).toNat 0) ∧ ixOk draws.length (4 + (3 * k)) ∧ 1 < draws.length ∧ 0 < (([4, 60, 5000] : List Int).getD (((draws.getD 1 0) % 3)).toNat 0) ∧ (bnd ((F_law_place line (draws.getD ((2 + (3 * k))).toNat 0) (draws.getD ((3 + (3 * k))).toNat 0)), (1 + ((draws.getD ((4 + (3 * k))).toNat 0) % (([4, 60, 5000] : List Int).getD (((draws.getD 1 0) % 3)).toNat 0)))) fun (load : (Rat × Int)) => found.length ≤ sizeLine ∧ (∀ other ∈ found, Q2 load.1 other.1) ∧ (bnd (((found.filter fun (other : (Rat × Int)) => (!(decide (load.1 < other.1)))).map fun (other : (Rat × Int)) => other).length : Int) fun (spot : Int) => 0 ≤ spot ∧ ((found.drop 0).take ((spot).toNat - 0)).length + ([load] : List (Rat × Int)).length ≤ sizeLine ∧ (((found.drop 0).take ((spot).toNat - 0)) ++ ([load] : List (Rat × Int))).length + (found.drop (spot).toNat).length ≤ sizeLine)))) (E := fun (found : (List (Rat × Int))) => [vv (encL PyData.int) script, vv PyData.int at_, vv (enc2 (encL (enc2 PyData.int PyData.int)) PyData.int) line, vv PyData.int most, vv (encL PyData.int) draws, vv (encL (enc2 encQ PyData.int)) found, none, none, none, none]) (.is (.is (.is (.is (.is (.is (.any (.any (.any (.is .nil)))))))))) (t_wk (t_cons (t_2 (t_2 (t_get rfl) t_c (f_idxK (d := 0) 0 rfl hb1.1)) (t_2 (t_get rfl) t_c f_add) (f_mod hb1.2.1)) t_nil) (f_rng1 hb1.2.2.1)) hb1.2.2.2 (fun found k => tg_n) (fun found k hx3 hb2 =>
  (ts_p [vv (encL PyData.int) script, vv PyData.int at_, vv (enc2 (encL (enc2 PyData.int PyData.int)) PyData.int) line, vv PyData.int most, vv (encL PyData.int) draws, vv (encL (enc2 encQ PyData.int)) found, vv PyData.int k, none, none, none] rfl (ts_setG (QQ := fun z => QL _ eE (Stp.nx z)) (eγ := (enc2 encQ PyData.int)) (t_as (enc2 encQ PyData.int) ((F_law_place line (draws.getD ((2 + (3 * k))).toNat 0) (draws.getD ((3 + (3 * k))).toNat 0)), (1 + ((draws.getD ((4 + (3 * k))).toNat 0) % (([4, 60, 5000] : List Int).getD (((draws.getD 1 0) % 3)).toNat 0)))) (t_seq (t_cons (t_seq (t_cons (t_get rfl) (t_cons (t_2 (t_get rfl) (t_2 t_c (t_2 t_c (t_get rfl) (f_mul (mulOk_l (by decide) (by decide)))) f_add) (f_idxL (d := 0) hb2.1)) (t_cons (t_2 (t_get rfl) (t_2 t_c (t_2 t_c (t_get rfl) (f_mul (mulOk_l (by decide) (by decide)))) f_add) (f_idxL (d := 0) hb2.2.1)) t_nil))) (T_law_place _ _ _ hb2.2.2.1)) (t_cons (t_2 t_c (t_2 (t_2 (t_get rfl) (t_2 t_c (t_2 t_c (t_get rfl) (f_mul (mulOk_l (by decide) (by decide)))) f_add) (f_idxL (d := 0) hb2.2.2.2.1)) (t_2 (t_as (encL PyData.int) ([4, 60, 5000] : List Int) (t_seq (t_cons t_c (t_cons t_c (t_cons t_c t_nil))) (mLst_ok rfl))) (t_2 (t_2 (t_get rfl) t_c (f_idxK (d := 0) 1 rfl hb2.2.2.2.2.1)) t_c (f_mod (by decide))) (f_idxL (d := 0) (ix_mod (n := 3) (by decide) (by decide)))) (f_mod hb2.2.2.2.2.2.1)) f_add) t_nil)) (mTup_ok rfl))) hb2.2.2.2.2.2.2 (fun load hb4 =>
  (ts_p [vv (encL PyData.int) script, vv PyData.int at_, vv (enc2 (encL (enc2 PyData.int PyData.int)) PyData.int) line, vv PyData.int most, vv (encL PyData.int) draws, vv (encL (enc2 encQ PyData.int)) found, vv PyData.int k, vv (enc2 encQ PyData.int) load, none, none] rfl (ts_setG (QQ := fun z => QL _ eE (Stp.nx z)) (eγ := PyData.int) (t_call (t_cons (t_L (t_lc (e := (enc2 encQ PyData.int)) (xs := found) (e' := (enc2 encQ PyData.int)) (t_items (t_get rfl) f_items) hb4.1 (fun other => tg_n) (fun other hx5 => (tm_p [vv (encL PyData.int) script, vv PyData.int at_, vv (enc2 (encL (enc2 PyData.int PyData.int)) PyData.int) line, vv PyData.int most, vv (encL PyData.int) draws, vv (encL (enc2 encQ PyData.int)) found, vv PyData.int k, vv (enc2 encQ PyData.int) load, none, vv (enc2 encQ PyData.int) other] rfl (t_notB (t_T (t_seq (t_cons (t_2 (t_get rfl) t_c (f_i0 _ _)) (t_cons (t_2 (t_get rfl) t_c (f_i0 _ _)) t_nil)) (T_law_less _ _ (hb4.2.1 other hx5))) f_truB)))) (fun other hx5 hc6 => (tm_p [vv (encL PyData.int) script, vv PyData.int at_, vv (enc2 (encL (enc2 PyData.int PyData.int)) PyData.int) line, vv PyData.int most, vv (encL PyData.int) draws, vv (encL (enc2 encQ PyData.int)) found, vv PyData.int k, vv (enc2 encQ PyData.int) load, none, vv (enc2 encQ PyData.int) other] rfl (t_get rfl))))) t_nil) f_lenL) hb4.2.2 (fun spot hb7 =>
  (ts_p [vv (encL PyData.int) script, vv PyData.int at_, vv (enc2 (encL (enc2 PyData.int PyData.int)) PyData.int) line, vv PyData.int most, vv (encL PyData.int) draws, vv (encL (enc2 encQ PyData.int)) found, vv PyData.int k, vv (enc2 encQ PyData.int) load, vv PyData.int spot, none] rfl (ts_end (ts_setG (QQ := fun z => QL _ eE (Stp.nx z)) (eγ := (encL (enc2 encQ PyData.int))) (t_2 (t_2 (t_cut (t_get rfl) (t_part t_c) (t_part (t_get rfl)) (f_cut2 (a := 0) (b := spot) (by decide) hb7.1)) (t_as (encL (enc2 encQ PyData.int)) ([load] : List (Rat × Int)) (t_seq (t_cons (t_get rfl) t_nil) (mLst_ok rfl))) (f_addL hb7.2.1)) (t_cut (t_get rfl) (t_part (t_get rfl)) t_no (f_cut1 (a := spot) hb7.1)) (f_addL hb7.2.2)) (show bnd _ (fun _ => True) from trivial) (fun found2 hb8 =>
  (ts_p [vv (encL PyData.int) script, vv PyData.int at_, vv (enc2 (encL (enc2 PyData.int PyData.int)) PyData.int) line, vv PyData.int most, vv (encL PyData.int) draws, vv (encL (enc2 encQ PyData.int)) found2, vv PyData.int k, vv (enc2 encQ PyData.int) load, vv PyData.int spot, none] rfl (ts_finL (.is (.is (.is (.is (.is (.is (.any (.any (.any (.is .nil))))))))))))))))))))))) (show bnd _ (fun _ => True) from trivial) (fun found3 hb9 =>
  (ts_p [vv (encL PyData.int) script, vv PyData.int at_, vv (enc2 (encL (enc2 PyData.int PyData.int)) PyData.int) line, vv PyData.int most, vv (encL PyData.int) draws, vv (encL (enc2 encQ PyData.int)) found3, none, none, none, none] rfl (ts_end (ts_retF (t_get rfl)))))))))))))
noncomputable def F_span_count (line : ((List (Int × Int)) × Int)) : Int :=
  ((line.1.length : Int) - 1)
theorem T_span_count (line : ((List (Int × Int)) × Int)) : m_span_count [(enc2 (encL (enc2 PyData.int PyData.int)) PyData.int) line] = .ok (PyData.int (F_span_count line)) :=
  t_fn (b := b_span_count) (eτ := PyData.int) rfl
  ((ts_p [vv (enc2 (encL (enc2 PyData.int PyData.int)) PyData.int) line] rfl (ts_end (ts_retF (t_2 (t_call (t_cons (t_2 (t_get rfl) t_c (f_i0 _ _)) t_nil) f_lenL) t_c f_sub)))))
noncomputable def F_span_ends (line : ((List (Int × Int)) × Int)) (span : Int) : (Rat × Rat) :=
  ((((line.1.getD (span).toNat (0, 0)).1 : Int) : Rat), (((line.1.getD ((span + 1)).toNat (0, 0)).1 : Int) : Rat))
def S_span_ends (line : ((List (Int × Int)) × Int)) (span : Int) : Prop :=
  ixOk line.1.length span ∧ ixOk line.1.length (span + 1)
theorem T_span_ends (line : ((List (Int × Int)) × Int)) (span : Int) (h : S_span_ends line span) : m_span_ends [(enc2 (encL (enc2 PyData.int PyData.int)) PyData.int) line, PyData.int span] = .ok ((enc2 encQ encQ) (F_span_ends line span)) :=
  t_fn (b := b_span_ends) (eτ := (enc2 encQ encQ)) rfl
  ((ts_p [vv (enc2 (encL (enc2 PyData.int PyData.int)) PyData.int) line, vv PyData.int span] rfl (ts_end (ts_retF (t_as (enc2 encQ encQ) ((((line.1.getD (span).toNat (0, 0)).1 : Int) : Rat), (((line.1.getD ((span + 1)).toNat (0, 0)).1 : Int) : Rat)) (t_seq (t_cons (t_seq (t_cons (t_2 (t_2 (t_2 (t_get rfl) t_c (f_i0 _ _)) (t_get rfl) (f_idxL (d := (0, 0)) h.1)) t_c (f_i0 _ _)) t_nil) (T_whole _)) (t_cons (t_seq (t_cons (t_2 (t_2 (t_2 (t_get rfl) t_c (f_i0 _ _)) (t_2 (t_get rfl) t_c f_add) (f_idxL (d := (0, 0)) h.2)) t_c (f_i0 _ _)) t_nil) (T_whole _)) t_nil)) (mTup_ok rfl)))))))
noncomputable def F_span_of (line : ((List (Int × Int)) × Int)) (place : Rat) : Int :=
  (bnd ((rngI 0 (F_span_count line)).foldl (fun (found : Int) (span : Int) =>
  (if (!(decide (place < (F_span_ends line span).1))) = true then span
  else found)) 0) fun (found2 : Int) =>
  found2)
def S_span_of (line : ((List (Int × Int)) × Int)) (place : Rat) : Prop :=
  r62 (F_span_count line) ∧ LpS (fun (found : Int) (span : Int) => S_span_ends line span ∧ Q2 place (F_span_ends line span).1) (fun (found : Int) (span : Int) =>
  (if (!(decide (place < (F_span_ends line span).1))) = true then span
  else found)) (rngI 0 (F_span_count line)) 0
theorem T_span_of (line : ((List (Int × Int)) × Int)) (place : Rat) (h : S_span_of line place) : m_span_of [(enc2 (encL (enc2 PyData.int PyData.int)) PyData.int) line, encQ place] = .ok (PyData.int (F_span_of line place)) :=
  t_fn (b := b_span_of) (eτ := PyData.int) rfl
  ((ts_p [vv (enc2 (encL (enc2 PyData.int PyData.int)) PyData.int) line, vv encQ place, none, none] rfl (ts_set t_c (ts_p [vv (enc2 (encL (enc2 PyData.int PyData.int)) PyData.int) line, vv encQ place, vv PyData.int 0, none] rfl (ts_forG (QQ := QF PyData.int) (e := PyData.int) (xs := (rngI 0 (F_span_count line))) (eτ := eE) (F := (fun (found : Int) (span : Int) =>
  (if (!(decide (place < (F_span_ends line span).1))) = true then span
  else found))) (S := (fun (found : Int) (span : Int) => S_span_ends line span ∧ Q2 place (F_span_ends line span).1)) (E := fun (found : Int) => [vv (enc2 (encL (enc2 PyData.int PyData.int)) PyData.int) line, vv encQ place, vv PyData.int found, none]) (.is (.is (.is (.any .nil)))) (t_wk (t_cons (t_seq (t_cons (t_get rfl) t_nil) (T_span_count _)) t_nil) (f_rng1 h.1)) h.2 (fun found span => tg_n) (fun found span hx2 hb1 =>
  (ts_p [vv (enc2 (encL (enc2 PyData.int PyData.int)) PyData.int) line, vv encQ place, vv PyData.int found, vv PyData.int span] rfl (ts_end (ts_if (QQ := fun z => QL _ eE (Stp.nx z)) (t_notB (t_T (t_seq (t_cons (t_get rfl) (t_cons (t_2 (t_seq (t_cons (t_get rfl) (t_cons (t_get rfl) t_nil)) (T_span_ends _ _ hb1.1)) t_c (f_i0 _ _)) t_nil)) (T_is_less _ _ hb1.2)) f_truB)) (fun hc3 => (ts_set (t_get rfl) (ts_p [vv (enc2 (encL (enc2 PyData.int PyData.int)) PyData.int) line, vv encQ place, vv PyData.int span, vv PyData.int span] rfl (ts_finL (.is (.is (.is (.any .nil))))))))
  (fun hc3 => (ts_nx (ts_p [vv (enc2 (encL (enc2 PyData.int PyData.int)) PyData.int) line, vv encQ place, vv PyData.int found, vv PyData.int span] rfl (ts_finL (.is (.is (.is (.any .nil)))))))))))) (show bnd _ (fun _ => True) from trivial) (fun found2 hb4 =>
  (ts_p [vv (enc2 (encL (enc2 PyData.int PyData.int)) PyData.int) line, vv encQ place, vv PyData.int found2, none] rfl (ts_end (ts_retF (t_get rfl))))))))))
noncomputable def F_slope (line : ((List (Int × Int)) × Int)) (span : Int) : Rat :=
  (bnd ((line.1.getD (span).toNat (0, 0)), (line.1.getD ((span + 1)).toNat (0, 0))) fun (a_low_b_high : ((Int × Int) × (Int × Int))) =>
  ((((a_low_b_high.2.2 - a_low_b_high.1.2) : Int) : Rat) / (((a_low_b_high.2.1 - a_low_b_high.1.1) : Int) : Rat)))
def S_slope (line : ((List (Int × Int)) × Int)) (span : Int) : Prop :=
  ixOk line.1.length span ∧ ixOk line.1.length (span + 1) ∧ (bnd ((line.1.getD (span).toNat (0, 0)), (line.1.getD ((span + 1)).toNat (0, 0))) fun (a_low_b_high : ((Int × Int) × (Int × Int))) => Qf (a_low_b_high.2.2 - a_low_b_high.1.2) (a_low_b_high.2.1 - a_low_b_high.1.1))
theorem T_slope (line : ((List (Int × Int)) × Int)) (span : Int) (h : S_slope line span) : m_slope [(enc2 (encL (enc2 PyData.int PyData.int)) PyData.int) line, PyData.int span] = .ok (encQ (F_slope line span)) :=
  t_fn (b := b_slope) (eτ := encQ) rfl
  ((ts_p [vv (enc2 (encL (enc2 PyData.int PyData.int)) PyData.int) line, vv PyData.int span, none, none, none, none] rfl (ts_asgG (QQ := QF encQ) (eγ := (enc2 (enc2 PyData.int PyData.int) (enc2 PyData.int PyData.int))) (t_as (enc2 (enc2 PyData.int PyData.int) (enc2 PyData.int PyData.int)) ((line.1.getD (span).toNat (0, 0)), (line.1.getD ((span + 1)).toNat (0, 0))) (t_seq (t_cons (t_2 (t_2 (t_get rfl) t_c (f_i0 _ _)) (t_get rfl) (f_idxL (d := (0, 0)) h.1)) (t_cons (t_2 (t_2 (t_get rfl) t_c (f_i0 _ _)) (t_2 (t_get rfl) t_c f_add) (f_idxL (d := (0, 0)) h.2.1)) t_nil)) (mTup_ok rfl))) h.2.2 (fun a_low_b_high => (tg_t (tg_c (tg_t (tg_c tg_n (tg_c tg_n tg_e)) rfl) (tg_c (tg_t (tg_c tg_n (tg_c tg_n tg_e)) rfl) tg_e)) rfl)) (fun a_low_b_high hb1 =>
  (ts_p [vv (enc2 (encL (enc2 PyData.int PyData.int)) PyData.int) line, vv PyData.int span, vv PyData.int a_low_b_high.1.1, vv PyData.int a_low_b_high.1.2, vv PyData.int a_low_b_high.2.1, vv PyData.int a_low_b_high.2.2] rfl (ts_end (ts_retF (t_seq (t_cons (t_2 (t_get rfl) (t_get rfl) f_sub) (t_cons (t_2 (t_get rfl) (t_get rfl) f_sub) t_nil)) (T_fraction _ _ hb1)))))))))
noncomputable def F_chord (line : ((List (Int × Int)) × Int)) (place : Rat) : Rat :=
  (bnd (F_span_of line place) fun (span : Int) =>
  (bnd (line.1.getD (span).toNat (0, 0)) fun (a_low : (Int × Int)) =>
  (((a_low.2 : Int) : Rat) + ((F_slope line span) * (place - ((a_low.1 : Int) : Rat))))))
def S_chord (line : ((List (Int × Int)) × Int)) (place : Rat) : Prop :=
  S_span_of line place ∧ (bnd (F_span_of line place) fun (span : Int) => ixOk line.1.length span ∧ (bnd (line.1.getD (span).toNat (0, 0)) fun (a_low : (Int × Int)) => S_slope line span ∧ Q2 place ((a_low.1 : Int) : Rat) ∧ Q2 (F_slope line span) (place - ((a_low.1 : Int) : Rat)) ∧ Q2 ((a_low.2 : Int) : Rat) ((F_slope line span) * (place - ((a_low.1 : Int) : Rat)))))
theorem T_chord (line : ((List (Int × Int)) × Int)) (place : Rat) (h : S_chord line place) : m_chord [(enc2 (encL (enc2 PyData.int PyData.int)) PyData.int) line, encQ place] = .ok (encQ (F_chord line place)) :=
  t_fn (b := b_chord) (eτ := encQ) rfl
  ((ts_p [vv (enc2 (encL (enc2 PyData.int PyData.int)) PyData.int) line, vv encQ place, none, none, none] rfl (ts_setG (QQ := QF encQ) (eγ := PyData.int) (t_seq (t_cons (t_get rfl) (t_cons (t_get rfl) t_nil)) (T_span_of _ _ h.1)) h.2 (fun span hb1 =>
  (ts_p [vv (enc2 (encL (enc2 PyData.int PyData.int)) PyData.int) line, vv encQ place, vv PyData.int span, none, none] rfl (ts_asgG (QQ := QF encQ) (eγ := (enc2 PyData.int PyData.int)) (t_2 (t_2 (t_get rfl) t_c (f_i0 _ _)) (t_get rfl) (f_idxL (d := (0, 0)) hb1.1)) hb1.2 (fun a_low => (tg_t (tg_c tg_n (tg_c tg_n tg_e)) rfl)) (fun a_low hb2 =>
  (ts_p [vv (enc2 (encL (enc2 PyData.int PyData.int)) PyData.int) line, vv encQ place, vv PyData.int span, vv PyData.int a_low.1, vv PyData.int a_low.2] rfl (ts_end (ts_retF (t_seq (t_cons (t_seq (t_cons (t_get rfl) t_nil) (T_whole _)) (t_cons (t_seq (t_cons (t_seq (t_cons (t_get rfl) (t_cons (t_get rfl) t_nil)) (T_slope _ _ hb2.1)) (t_cons (t_seq (t_cons (t_get rfl) (t_cons (t_seq (t_cons (t_get rfl) t_nil) (T_whole _)) t_nil)) (T_minus _ _ hb2.2.1)) t_nil)) (T_times _ _ hb2.2.2.1)) t_nil)) (T_plus _ _ hb2.2.2.2))))))))))))
noncomputable def F_loads_in (line : ((List (Int × Int)) × Int)) (loads : (List (Rat × Int))) (span : Int) : (List (Rat × Int)) :=
  (bnd (F_span_ends line span) fun (a_b : (Rat × Rat)) =>
  ((loads.filter fun (load : (Rat × Int)) => ((decide (a_b.1 < load.1)) && (decide (load.1 < a_b.2)))).map fun (load : (Rat × Int)) => load))
def S_loads_in (line : ((List (Int × Int)) × Int)) (loads : (List (Rat × Int))) (span : Int) : Prop :=
  S_span_ends line span ∧ (bnd (F_span_ends line span) fun (a_b : (Rat × Rat)) => loads.length ≤ sizeLine ∧ (∀ load ∈ loads, Q2 a_b.1 load.1 ∧ ((decide (a_b.1 < load.1)) = true → Q2 load.1 a_b.2)))
theorem T_loads_in (line : ((List (Int × Int)) × Int)) (loads : (List (Rat × Int))) (span : Int) (h : S_loads_in line loads span) : m_loads_in [(enc2 (encL (enc2 PyData.int PyData.int)) PyData.int) line, (encL (enc2 encQ PyData.int)) loads, PyData.int span] = .ok ((encL (enc2 encQ PyData.int)) (F_loads_in line loads span)) :=
  t_fn (b := b_loads_in) (eτ := (encL (enc2 encQ PyData.int))) rfl
  ((ts_p [vv (enc2 (encL (enc2 PyData.int PyData.int)) PyData.int) line, vv (encL (enc2 encQ PyData.int)) loads, vv PyData.int span, none, none, none] rfl (ts_asgG (QQ := QF (encL (enc2 encQ PyData.int))) (eγ := (enc2 encQ encQ)) (t_seq (t_cons (t_get rfl) (t_cons (t_get rfl) t_nil)) (T_span_ends _ _ h.1)) h.2 (fun a_b => (tg_t (tg_c tg_n (tg_c tg_n tg_e)) rfl)) (fun a_b hb1 =>
  (ts_p [vv (enc2 (encL (enc2 PyData.int PyData.int)) PyData.int) line, vv (encL (enc2 encQ PyData.int)) loads, vv PyData.int span, vv encQ a_b.1, vv encQ a_b.2, none] rfl (ts_end (ts_retF (t_L (t_lc (e := (enc2 encQ PyData.int)) (xs := loads) (e' := (enc2 encQ PyData.int)) (t_items (t_get rfl) f_items) hb1.1 (fun load => tg_n) (fun load hx2 => (tm_p [vv (enc2 (encL (enc2 PyData.int PyData.int)) PyData.int) line, vv (encL (enc2 encQ PyData.int)) loads, vv PyData.int span, vv encQ a_b.1, vv encQ a_b.2, vv (enc2 encQ PyData.int) load] rfl (t_andB (t_T (t_seq (t_cons (t_get rfl) (t_cons (t_2 (t_get rfl) t_c (f_i0 _ _)) t_nil)) (T_is_less _ _ (hb1.2 load hx2).1)) f_truB) fun hc3 => (t_T (t_seq (t_cons (t_2 (t_get rfl) t_c (f_i0 _ _)) (t_cons (t_get rfl) t_nil)) (T_is_less _ _ ((hb1.2 load hx2).2 hc3))) f_truB)))) (fun load hx2 hc4 => (tm_p [vv (enc2 (encL (enc2 PyData.int PyData.int)) PyData.int) line, vv (encL (enc2 encQ PyData.int)) loads, vv PyData.int span, vv encQ a_b.1, vv encQ a_b.2, vv (enc2 encQ PyData.int) load] rfl (t_get rfl))))))))))))
noncomputable def F_lesser (one : Rat) (other : Rat) : Rat :=
  (if (decide (other < one)) = true then other
  else one)
def S_lesser (one : Rat) (other : Rat) : Prop :=
  Q2 other one
theorem T_lesser (one : Rat) (other : Rat) (h : S_lesser one other) : m_lesser [encQ one, encQ other] = .ok (encQ (F_lesser one other)) :=
  t_fn (b := b_lesser) (eτ := encQ) rfl
  ((ts_p [vv encQ one, vv encQ other] rfl (ts_if (QQ := QF encQ) (t_T (t_seq (t_cons (t_get rfl) (t_cons (t_get rfl) t_nil)) (T_is_less _ _ h)) f_truB) (fun hc1 => (ts_retF (t_get rfl)))
  (fun hc1 => (ts_nx (ts_p [vv encQ one, vv encQ other] rfl (ts_end (ts_retF (t_get rfl)))))))))
noncomputable def F_greater (one : Rat) (other : Rat) : Rat :=
  (if (decide (one < other)) = true then other
  else one)
def S_greater (one : Rat) (other : Rat) : Prop :=
  Q2 one other
theorem T_greater (one : Rat) (other : Rat) (h : S_greater one other) : m_greater [encQ one, encQ other] = .ok (encQ (F_greater one other)) :=
  t_fn (b := b_greater) (eτ := encQ) rfl
  ((ts_p [vv encQ one, vv encQ other] rfl (ts_if (QQ := QF encQ) (t_T (t_seq (t_cons (t_get rfl) (t_cons (t_get rfl) t_nil)) (T_is_less _ _ h)) f_truB) (fun hc1 => (ts_retF (t_get rfl)))
  (fun hc1 => (ts_nx (ts_p [vv encQ one, vv encQ other] rfl (ts_end (ts_retF (t_get rfl)))))))))
noncomputable def F_load_moment (a : Rat) (b : Rat) (load : (Rat × Int)) (place : Rat) : Rat :=
  (bnd ((F_lesser load.1 place) - a) fun (near : Rat) =>
  (bnd (b - (F_greater load.1 place)) fun (far : Rat) =>
  ((((load.2 : Int) : Rat) * (near * far)) / (b - a))))
def S_load_moment (a : Rat) (b : Rat) (load : (Rat × Int)) (place : Rat) : Prop :=
  S_lesser load.1 place ∧ Q2 (F_lesser load.1 place) a ∧ (bnd ((F_lesser load.1 place) - a) fun (near : Rat) => S_greater load.1 place ∧ Q2 b (F_greater load.1 place) ∧ (bnd (b - (F_greater load.1 place)) fun (far : Rat) => Q2 near far ∧ Q2 ((load.2 : Int) : Rat) (near * far) ∧ Q2 b a ∧ Qd (((load.2 : Int) : Rat) * (near * far)) (b - a)))
theorem T_load_moment (a : Rat) (b : Rat) (load : (Rat × Int)) (place : Rat) (h : S_load_moment a b load place) : m_load_moment [encQ a, encQ b, (enc2 encQ PyData.int) load, encQ place] = .ok (encQ (F_load_moment a b load place)) :=
  t_fn (b := b_load_moment) (eτ := encQ) rfl
  ((ts_p [vv encQ a, vv encQ b, vv (enc2 encQ PyData.int) load, vv encQ place, none, none, none, none] rfl (ts_asg (t_get rfl) (tg_t (tg_c tg_n (tg_c tg_n tg_e)) rfl) (ts_p [vv encQ a, vv encQ b, vv (enc2 encQ PyData.int) load, vv encQ place, vv encQ load.1, vv PyData.int load.2, none, none] rfl (ts_setG (QQ := QF encQ) (eγ := encQ) (t_seq (t_cons (t_seq (t_cons (t_get rfl) (t_cons (t_get rfl) t_nil)) (T_lesser _ _ h.1)) (t_cons (t_get rfl) t_nil)) (T_minus _ _ h.2.1)) h.2.2 (fun near hb1 =>
  (ts_p [vv encQ a, vv encQ b, vv (enc2 encQ PyData.int) load, vv encQ place, vv encQ load.1, vv PyData.int load.2, vv encQ near, none] rfl (ts_setG (QQ := QF encQ) (eγ := encQ) (t_seq (t_cons (t_get rfl) (t_cons (t_seq (t_cons (t_get rfl) (t_cons (t_get rfl) t_nil)) (T_greater _ _ hb1.1)) t_nil)) (T_minus _ _ hb1.2.1)) hb1.2.2 (fun far hb2 =>
  (ts_p [vv encQ a, vv encQ b, vv (enc2 encQ PyData.int) load, vv encQ place, vv encQ load.1, vv PyData.int load.2, vv encQ near, vv encQ far] rfl (ts_end (ts_retF (t_seq (t_cons (t_seq (t_cons (t_seq (t_cons (t_get rfl) t_nil) (T_whole _)) (t_cons (t_seq (t_cons (t_get rfl) (t_cons (t_get rfl) t_nil)) (T_times _ _ hb2.1)) t_nil)) (T_times _ _ hb2.2.1)) (t_cons (t_seq (t_cons (t_get rfl) (t_cons (t_get rfl) t_nil)) (T_minus _ _ hb2.2.2.1)) t_nil)) (T_over _ _ hb2.2.2.2))))))))))))))
noncomputable def F_sum_of (some_ : (List Rat)) : Rat :=
  (bnd (((0 : Int)) : Rat) fun (found : Rat) =>
  (bnd (some_.foldl (fun (found2 : Rat) (one : Rat) =>
  (bnd (found2 + one) fun (found3 : Rat) =>
  found3)) found) fun (found22 : Rat) =>
  found22))
def S_sum_of (some_ : (List Rat)) : Prop :=
  (bnd (((0 : Int)) : Rat) fun (found : Rat) => LpS (fun (found2 : Rat) (one : Rat) => Q2 found2 one) (fun (found2 : Rat) (one : Rat) =>
  (bnd (found2 + one) fun (found3 : Rat) =>
  found3)) some_ found)
theorem T_sum_of (some_ : (List Rat)) (h : S_sum_of some_) : m_sum_of [(encL encQ) some_] = .ok (encQ (F_sum_of some_)) :=
  t_fn (b := b_sum_of) (eτ := encQ) rfl
  ((ts_p [vv (encL encQ) some_, none, none] rfl (ts_setG (QQ := QF encQ) (eγ := encQ) (t_Q1 0 (t_as (enc2 PyData.int PyData.int) (0, 1) t_c)) h (fun found hb1 =>
  (ts_p [vv (encL encQ) some_, vv encQ found, none] rfl (ts_forG (QQ := QF encQ) (e := encQ) (xs := some_) (eτ := eE) (F := (fun (found2 : Rat) (one : Rat) =>
  (bnd (found2 + one) fun (found3 : Rat) =>
  found3))) (S := (fun (found2 : Rat) (one : Rat) => Q2 found2 one)) (E := fun (found2 : Rat) => [vv (encL encQ) some_, vv encQ found2, none]) (.is (.is (.any .nil))) (t_items (t_get rfl) f_items) hb1 (fun found2 one => tg_n) (fun found2 one hx3 hb2 =>
  (ts_p [vv (encL encQ) some_, vv encQ found2, vv encQ one] rfl (ts_end (ts_setG (QQ := fun z => QL _ eE (Stp.nx z)) (eγ := encQ) (t_seq (t_cons (t_get rfl) (t_cons (t_get rfl) t_nil)) (T_plus _ _ hb2)) (show bnd _ (fun _ => True) from trivial) (fun found3 hb4 =>
  (ts_p [vv (encL encQ) some_, vv encQ found3, vv encQ one] rfl (ts_finL (.is (.is (.any .nil)))))))))) (show bnd _ (fun _ => True) from trivial) (fun found22 hb5 =>
  (ts_p [vv (encL encQ) some_, vv encQ found22, none] rfl (ts_end (ts_retF (t_get rfl)))))))))))
noncomputable def F_rope_moment (line : ((List (Int × Int)) × Int)) (a : Rat) (b : Rat) (place : Rat) : Rat :=
  ((((line.2 : Int) : Rat) / ((2 : Int) : Rat)) * ((place - a) * (b - place)))
def S_rope_moment (line : ((List (Int × Int)) × Int)) (a : Rat) (b : Rat) (place : Rat) : Prop :=
  Qf line.2 2 ∧ Q2 place a ∧ Q2 b place ∧ Q2 (place - a) (b - place) ∧ Q2 (((line.2 : Int) : Rat) / ((2 : Int) : Rat)) ((place - a) * (b - place))
theorem T_rope_moment (line : ((List (Int × Int)) × Int)) (a : Rat) (b : Rat) (place : Rat) (h : S_rope_moment line a b place) : m_rope_moment [(enc2 (encL (enc2 PyData.int PyData.int)) PyData.int) line, encQ a, encQ b, encQ place] = .ok (encQ (F_rope_moment line a b place)) :=
  t_fn (b := b_rope_moment) (eτ := encQ) rfl
  ((ts_p [vv (enc2 (encL (enc2 PyData.int PyData.int)) PyData.int) line, vv encQ a, vv encQ b, vv encQ place] rfl (ts_end (ts_retF (t_seq (t_cons (t_seq (t_cons (t_2 (t_get rfl) t_c (f_i1 _ _ _)) (t_cons t_c t_nil)) (T_fraction _ _ h.1)) (t_cons (t_seq (t_cons (t_seq (t_cons (t_get rfl) (t_cons (t_get rfl) t_nil)) (T_minus _ _ h.2.1)) (t_cons (t_seq (t_cons (t_get rfl) (t_cons (t_get rfl) t_nil)) (T_minus _ _ h.2.2.1)) t_nil)) (T_times _ _ h.2.2.2.1)) t_nil)) (T_times _ _ h.2.2.2.2))))))
noncomputable def F_span_moment (line : ((List (Int × Int)) × Int)) (loads : (List (Rat × Int))) (span : Int) (place : Rat) : Rat :=
  (bnd (F_span_ends line span) fun (a_b : (Rat × Rat)) =>
  (bnd ((F_loads_in line loads span).map fun (load : (Rat × Int)) => (F_load_moment a_b.1 a_b.2 load place)) fun (some_ : (List Rat)) =>
  ((F_sum_of some_) + (F_rope_moment line a_b.1 a_b.2 place))))
def S_span_moment (line : ((List (Int × Int)) × Int)) (loads : (List (Rat × Int))) (span : Int) (place : Rat) : Prop :=
  S_span_ends line span ∧ (bnd (F_span_ends line span) fun (a_b : (Rat × Rat)) => S_loads_in line loads span ∧ (F_loads_in line loads span).length ≤ sizeLine ∧ (∀ load ∈ (F_loads_in line loads span), S_load_moment a_b.1 a_b.2 load place) ∧ (bnd ((F_loads_in line loads span).map fun (load : (Rat × Int)) => (F_load_moment a_b.1 a_b.2 load place)) fun (some_ : (List Rat)) => S_sum_of some_ ∧ S_rope_moment line a_b.1 a_b.2 place ∧ Q2 (F_sum_of some_) (F_rope_moment line a_b.1 a_b.2 place)))
theorem T_span_moment (line : ((List (Int × Int)) × Int)) (loads : (List (Rat × Int))) (span : Int) (place : Rat) (h : S_span_moment line loads span place) : m_span_moment [(enc2 (encL (enc2 PyData.int PyData.int)) PyData.int) line, (encL (enc2 encQ PyData.int)) loads, PyData.int span, encQ place] = .ok (encQ (F_span_moment line loads span place)) :=
  t_fn (b := b_span_moment) (eτ := encQ) rfl
  ((ts_p [vv (enc2 (encL (enc2 PyData.int PyData.int)) PyData.int) line, vv (encL (enc2 encQ PyData.int)) loads, vv PyData.int span, vv encQ place, none, none, none, none] rfl (ts_asgG (QQ := QF encQ) (eγ := (enc2 encQ encQ)) (t_seq (t_cons (t_get rfl) (t_cons (t_get rfl) t_nil)) (T_span_ends _ _ h.1)) h.2 (fun a_b => (tg_t (tg_c tg_n (tg_c tg_n tg_e)) rfl)) (fun a_b hb1 =>
  (ts_p [vv (enc2 (encL (enc2 PyData.int PyData.int)) PyData.int) line, vv (encL (enc2 encQ PyData.int)) loads, vv PyData.int span, vv encQ place, vv encQ a_b.1, vv encQ a_b.2, none, none] rfl (ts_setLG (QQ := QF encQ) (eγ := encQ) (t_lc0 (e := (enc2 encQ PyData.int)) (xs := (F_loads_in line loads span)) (e' := encQ) (t_items (t_seq (t_cons (t_get rfl) (t_cons (t_get rfl) (t_cons (t_get rfl) t_nil))) (T_loads_in _ _ _ hb1.1)) f_items) hb1.2.1 (fun load => tg_n) (fun load hx2 => (tm_p [vv (enc2 (encL (enc2 PyData.int PyData.int)) PyData.int) line, vv (encL (enc2 encQ PyData.int)) loads, vv PyData.int span, vv encQ place, vv encQ a_b.1, vv encQ a_b.2, none, vv (enc2 encQ PyData.int) load] rfl (t_seq (t_cons (t_get rfl) (t_cons (t_get rfl) (t_cons (t_get rfl) (t_cons (t_get rfl) t_nil)))) (T_load_moment _ _ _ _ (hb1.2.2.1 load hx2)))))) hb1.2.2.2 (fun some_ hb3 =>
  (ts_p [vv (enc2 (encL (enc2 PyData.int PyData.int)) PyData.int) line, vv (encL (enc2 encQ PyData.int)) loads, vv PyData.int span, vv encQ place, vv encQ a_b.1, vv encQ a_b.2, vv (encL encQ) some_, none] rfl (ts_end (ts_retF (t_seq (t_cons (t_seq (t_cons (t_get rfl) t_nil) (T_sum_of _ hb3.1)) (t_cons (t_seq (t_cons (t_get rfl) (t_cons (t_get rfl) (t_cons (t_get rfl) (t_cons (t_get rfl) t_nil)))) (T_rope_moment _ _ _ _ hb3.2.1)) t_nil)) (T_plus _ _ hb3.2.2))))))))))))
noncomputable def F_moment (line : ((List (Int × Int)) × Int)) (loads : (List (Rat × Int))) (place : Rat) : Rat :=
  (F_span_moment line loads (F_span_of line place) place)
def S_moment (line : ((List (Int × Int)) × Int)) (loads : (List (Rat × Int))) (place : Rat) : Prop :=
  S_span_of line place ∧ S_span_moment line loads (F_span_of line place) place
theorem T_moment (line : ((List (Int × Int)) × Int)) (loads : (List (Rat × Int))) (place : Rat) (h : S_moment line loads place) : m_moment [(enc2 (encL (enc2 PyData.int PyData.int)) PyData.int) line, (encL (enc2 encQ PyData.int)) loads, encQ place] = .ok (encQ (F_moment line loads place)) :=
  t_fn (b := b_moment) (eτ := encQ) rfl
  ((ts_p [vv (enc2 (encL (enc2 PyData.int PyData.int)) PyData.int) line, vv (encL (enc2 encQ PyData.int)) loads, vv encQ place] rfl (ts_end (ts_retF (t_seq (t_cons (t_get rfl) (t_cons (t_get rfl) (t_cons (t_seq (t_cons (t_get rfl) (t_cons (t_get rfl) t_nil)) (T_span_of _ _ h.1)) (t_cons (t_get rfl) t_nil)))) (T_span_moment _ _ _ _ h.2))))))
noncomputable def F_height (line : ((List (Int × Int)) × Int)) (loads : (List (Rat × Int))) (tension : Rat) (place : Rat) : Rat :=
  ((F_chord line place) - ((F_moment line loads place) / tension))
def S_height (line : ((List (Int × Int)) × Int)) (loads : (List (Rat × Int))) (tension : Rat) (place : Rat) : Prop :=
  S_chord line place ∧ S_moment line loads place ∧ Qd (F_moment line loads place) tension ∧ Q2 (F_chord line place) ((F_moment line loads place) / tension)
theorem T_height (line : ((List (Int × Int)) × Int)) (loads : (List (Rat × Int))) (tension : Rat) (place : Rat) (h : S_height line loads tension place) : m_height [(enc2 (encL (enc2 PyData.int PyData.int)) PyData.int) line, (encL (enc2 encQ PyData.int)) loads, encQ tension, encQ place] = .ok (encQ (F_height line loads tension place)) :=
  t_fn (b := b_height) (eτ := encQ) rfl
  ((ts_p [vv (enc2 (encL (enc2 PyData.int PyData.int)) PyData.int) line, vv (encL (enc2 encQ PyData.int)) loads, vv encQ tension, vv encQ place] rfl (ts_end (ts_retF (t_seq (t_cons (t_seq (t_cons (t_get rfl) (t_cons (t_get rfl) t_nil)) (T_chord _ _ h.1)) (t_cons (t_seq (t_cons (t_seq (t_cons (t_get rfl) (t_cons (t_get rfl) (t_cons (t_get rfl) t_nil))) (T_moment _ _ _ h.2.1)) (t_cons (t_get rfl) t_nil)) (T_over _ _ h.2.2.1)) t_nil)) (T_minus _ _ h.2.2.2))))))
noncomputable def F_law_middle (one : Rat) (other : Rat) : Rat :=
  (((1 : Rat) / 2) * (one + other))
def S_law_middle (one : Rat) (other : Rat) : Prop :=
  Q2 one other ∧ Q2 ((1 : Rat) / 2) (one + other)
theorem T_law_middle (one : Rat) (other : Rat) (h : S_law_middle one other) : m_law_middle [encQ one, encQ other] = .ok (encQ (F_law_middle one other)) :=
  t_fn (b := b_law_middle) (eτ := encQ) rfl
  ((ts_p [vv encQ one, vv encQ other] rfl (ts_end (ts_retF (t_seq (t_cons (t_Qab (q := ((1 : Rat) / 2)) (by decide +kernel) (by decide +kernel) (t_as (enc2 PyData.int PyData.int) (1, 2) (t_seq (t_cons t_c (t_cons t_c t_nil)) (mTup_ok rfl)))) (t_cons (t_seq (t_cons (t_get rfl) (t_cons (t_get rfl) t_nil)) (T_law_plus _ _ h.1)) t_nil)) (T_law_times _ _ h.2))))))
noncomputable def F_law_bare (line : ((List (Int × Int)) × Int)) (loads : (List (Rat × Int))) (tension : Rat) (place : Rat) : Rat :=
  (bnd (F_height line loads tension place) fun (told : Rat) =>
  (bnd (((((line.2 : Int) : Rat) / ((2 : Int) : Rat)) * (place * place)) / tension) fun (share : Rat) =>
  (told - share)))
def S_law_bare (line : ((List (Int × Int)) × Int)) (loads : (List (Rat × Int))) (tension : Rat) (place : Rat) : Prop :=
  S_height line loads tension place ∧ (bnd (F_height line loads tension place) fun (told : Rat) => Qf line.2 2 ∧ Q2 place place ∧ Q2 (((line.2 : Int) : Rat) / ((2 : Int) : Rat)) (place * place) ∧ Qd ((((line.2 : Int) : Rat) / ((2 : Int) : Rat)) * (place * place)) tension ∧ (bnd (((((line.2 : Int) : Rat) / ((2 : Int) : Rat)) * (place * place)) / tension) fun (share : Rat) => Q2 told share))
theorem T_law_bare (line : ((List (Int × Int)) × Int)) (loads : (List (Rat × Int))) (tension : Rat) (place : Rat) (h : S_law_bare line loads tension place) : m_law_bare [(enc2 (encL (enc2 PyData.int PyData.int)) PyData.int) line, (encL (enc2 encQ PyData.int)) loads, encQ tension, encQ place] = .ok (encQ (F_law_bare line loads tension place)) :=
  t_fn (b := b_law_bare) (eτ := encQ) rfl
  ((ts_p [vv (enc2 (encL (enc2 PyData.int PyData.int)) PyData.int) line, vv (encL (enc2 encQ PyData.int)) loads, vv encQ tension, vv encQ place, none, none] rfl (ts_setG (QQ := QF encQ) (eγ := encQ) (t_seq (t_cons (t_get rfl) (t_cons (t_get rfl) (t_cons (t_get rfl) (t_cons (t_get rfl) t_nil)))) (T_height _ _ _ _ h.1)) h.2 (fun told hb1 =>
  (ts_p [vv (enc2 (encL (enc2 PyData.int PyData.int)) PyData.int) line, vv (encL (enc2 encQ PyData.int)) loads, vv encQ tension, vv encQ place, vv encQ told, none] rfl (ts_setG (QQ := QF encQ) (eγ := encQ) (t_seq (t_cons (t_seq (t_cons (t_seq (t_cons (t_2 (t_get rfl) t_c (f_i1 _ _ _)) (t_cons t_c t_nil)) (T_law_frac _ _ hb1.1)) (t_cons (t_seq (t_cons (t_get rfl) (t_cons (t_get rfl) t_nil)) (T_law_times _ _ hb1.2.1)) t_nil)) (T_law_times _ _ hb1.2.2.1)) (t_cons (t_get rfl) t_nil)) (T_law_over _ _ hb1.2.2.2.1)) hb1.2.2.2.2 (fun share hb2 =>
  (ts_p [vv (enc2 (encL (enc2 PyData.int PyData.int)) PyData.int) line, vv (encL (enc2 encQ PyData.int)) loads, vv encQ tension, vv encQ place, vv encQ told, vv encQ share] rfl (ts_end (ts_retF (t_seq (t_cons (t_get rfl) (t_cons (t_get rfl) t_nil)) (T_law_minus _ _ hb2))))))))))))
noncomputable def F_law_slope_between (line : ((List (Int × Int)) × Int)) (loads : (List (Rat × Int))) (tension : Rat) (one : Rat) (other : Rat) : Rat :=
  (bnd ((F_law_bare line loads tension other) - (F_law_bare line loads tension one)) fun (rise : Rat) =>
  (rise / (other - one)))
def S_law_slope_between (line : ((List (Int × Int)) × Int)) (loads : (List (Rat × Int))) (tension : Rat) (one : Rat) (other : Rat) : Prop :=
  S_law_bare line loads tension other ∧ S_law_bare line loads tension one ∧ Q2 (F_law_bare line loads tension other) (F_law_bare line loads tension one) ∧ (bnd ((F_law_bare line loads tension other) - (F_law_bare line loads tension one)) fun (rise : Rat) => Q2 other one ∧ Qd rise (other - one))
theorem T_law_slope_between (line : ((List (Int × Int)) × Int)) (loads : (List (Rat × Int))) (tension : Rat) (one : Rat) (other : Rat) (h : S_law_slope_between line loads tension one other) : m_law_slope_between [(enc2 (encL (enc2 PyData.int PyData.int)) PyData.int) line, (encL (enc2 encQ PyData.int)) loads, encQ tension, encQ one, encQ other] = .ok (encQ (F_law_slope_between line loads tension one other)) :=
  t_fn (b := b_law_slope_between) (eτ := encQ) rfl
  ((ts_p [vv (enc2 (encL (enc2 PyData.int PyData.int)) PyData.int) line, vv (encL (enc2 encQ PyData.int)) loads, vv encQ tension, vv encQ one, vv encQ other, none] rfl (ts_setG (QQ := QF encQ) (eγ := encQ) (t_seq (t_cons (t_seq (t_cons (t_get rfl) (t_cons (t_get rfl) (t_cons (t_get rfl) (t_cons (t_get rfl) t_nil)))) (T_law_bare _ _ _ _ h.1)) (t_cons (t_seq (t_cons (t_get rfl) (t_cons (t_get rfl) (t_cons (t_get rfl) (t_cons (t_get rfl) t_nil)))) (T_law_bare _ _ _ _ h.2.1)) t_nil)) (T_law_minus _ _ h.2.2.1)) h.2.2.2 (fun rise hb1 =>
  (ts_p [vv (enc2 (encL (enc2 PyData.int PyData.int)) PyData.int) line, vv (encL (enc2 encQ PyData.int)) loads, vv encQ tension, vv encQ one, vv encQ other, vv encQ rise] rfl (ts_end (ts_retF (t_seq (t_cons (t_get rfl) (t_cons (t_seq (t_cons (t_get rfl) (t_cons (t_get rfl) t_nil)) (T_law_minus _ _ hb1.1)) t_nil)) (T_law_over _ _ hb1.2)))))))))
noncomputable def F_share_ahead (line : ((List (Int × Int)) × Int)) (loads : (List (Rat × Int))) (span : Int) : Rat :=
  (bnd (F_span_ends line span) fun (a_b : (Rat × Rat)) =>
  (bnd ((F_loads_in line loads span).map fun (at_weight : (Rat × Int)) => ((((at_weight.2 : Int) : Rat) * (at_weight.1 - a_b.1)) / (a_b.2 - a_b.1))) fun (some_ : (List Rat)) =>
  ((F_sum_of some_) + ((((line.2 : Int) : Rat) / ((2 : Int) : Rat)) * (a_b.2 - a_b.1)))))
def S_share_ahead (line : ((List (Int × Int)) × Int)) (loads : (List (Rat × Int))) (span : Int) : Prop :=
  S_span_ends line span ∧ (bnd (F_span_ends line span) fun (a_b : (Rat × Rat)) => S_loads_in line loads span ∧ (F_loads_in line loads span).length ≤ sizeLine ∧ (∀ at_weight ∈ (F_loads_in line loads span), Q2 at_weight.1 a_b.1 ∧ Q2 ((at_weight.2 : Int) : Rat) (at_weight.1 - a_b.1) ∧ Q2 a_b.2 a_b.1 ∧ Qd (((at_weight.2 : Int) : Rat) * (at_weight.1 - a_b.1)) (a_b.2 - a_b.1)) ∧ (bnd ((F_loads_in line loads span).map fun (at_weight : (Rat × Int)) => ((((at_weight.2 : Int) : Rat) * (at_weight.1 - a_b.1)) / (a_b.2 - a_b.1))) fun (some_ : (List Rat)) => S_sum_of some_ ∧ Qf line.2 2 ∧ Q2 a_b.2 a_b.1 ∧ Q2 (((line.2 : Int) : Rat) / ((2 : Int) : Rat)) (a_b.2 - a_b.1) ∧ Q2 (F_sum_of some_) ((((line.2 : Int) : Rat) / ((2 : Int) : Rat)) * (a_b.2 - a_b.1))))
theorem T_share_ahead (line : ((List (Int × Int)) × Int)) (loads : (List (Rat × Int))) (span : Int) (h : S_share_ahead line loads span) : m_share_ahead [(enc2 (encL (enc2 PyData.int PyData.int)) PyData.int) line, (encL (enc2 encQ PyData.int)) loads, PyData.int span] = .ok (encQ (F_share_ahead line loads span)) :=
  t_fn (b := b_share_ahead) (eτ := encQ) rfl
  ((ts_p [vv (enc2 (encL (enc2 PyData.int PyData.int)) PyData.int) line, vv (encL (enc2 encQ PyData.int)) loads, vv PyData.int span, none, none, none, none, none] rfl (ts_asgG (QQ := QF encQ) (eγ := (enc2 encQ encQ)) (t_seq (t_cons (t_get rfl) (t_cons (t_get rfl) t_nil)) (T_span_ends _ _ h.1)) h.2 (fun a_b => (tg_t (tg_c tg_n (tg_c tg_n tg_e)) rfl)) (fun a_b hb1 =>
  (ts_p [vv (enc2 (encL (enc2 PyData.int PyData.int)) PyData.int) line, vv (encL (enc2 encQ PyData.int)) loads, vv PyData.int span, vv encQ a_b.1, vv encQ a_b.2, none, none, none] rfl (ts_setLG (QQ := QF encQ) (eγ := encQ) (t_lc0 (e := (enc2 encQ PyData.int)) (xs := (F_loads_in line loads span)) (e' := encQ) (t_items (t_seq (t_cons (t_get rfl) (t_cons (t_get rfl) (t_cons (t_get rfl) t_nil))) (T_loads_in _ _ _ hb1.1)) f_items) hb1.2.1 (fun at_weight => (tg_t (tg_c tg_n (tg_c tg_n tg_e)) rfl)) (fun at_weight hx2 => (tm_p [vv (enc2 (encL (enc2 PyData.int PyData.int)) PyData.int) line, vv (encL (enc2 encQ PyData.int)) loads, vv PyData.int span, vv encQ a_b.1, vv encQ a_b.2, none, vv encQ at_weight.1, vv PyData.int at_weight.2] rfl (t_seq (t_cons (t_seq (t_cons (t_seq (t_cons (t_get rfl) t_nil) (T_whole _)) (t_cons (t_seq (t_cons (t_get rfl) (t_cons (t_get rfl) t_nil)) (T_minus _ _ (hb1.2.2.1 at_weight hx2).1)) t_nil)) (T_times _ _ (hb1.2.2.1 at_weight hx2).2.1)) (t_cons (t_seq (t_cons (t_get rfl) (t_cons (t_get rfl) t_nil)) (T_minus _ _ (hb1.2.2.1 at_weight hx2).2.2.1)) t_nil)) (T_over _ _ (hb1.2.2.1 at_weight hx2).2.2.2))))) hb1.2.2.2 (fun some_ hb3 =>
  (ts_p [vv (enc2 (encL (enc2 PyData.int PyData.int)) PyData.int) line, vv (encL (enc2 encQ PyData.int)) loads, vv PyData.int span, vv encQ a_b.1, vv encQ a_b.2, vv (encL encQ) some_, none, none] rfl (ts_end (ts_retF (t_seq (t_cons (t_seq (t_cons (t_get rfl) t_nil) (T_sum_of _ hb3.1)) (t_cons (t_seq (t_cons (t_seq (t_cons (t_2 (t_get rfl) t_c (f_i1 _ _ _)) (t_cons t_c t_nil)) (T_fraction _ _ hb3.2.1)) (t_cons (t_seq (t_cons (t_get rfl) (t_cons (t_get rfl) t_nil)) (T_minus _ _ hb3.2.2.1)) t_nil)) (T_times _ _ hb3.2.2.2.1)) t_nil)) (T_plus _ _ hb3.2.2.2.2))))))))))))
noncomputable def F_share_behind (line : ((List (Int × Int)) × Int)) (loads : (List (Rat × Int))) (span : Int) : Rat :=
  (bnd (F_span_ends line span) fun (a_b : (Rat × Rat)) =>
  (bnd ((F_loads_in line loads span).map fun (at_weight : (Rat × Int)) => ((((at_weight.2 : Int) : Rat) * (a_b.2 - at_weight.1)) / (a_b.2 - a_b.1))) fun (some_ : (List Rat)) =>
  ((F_sum_of some_) + ((((line.2 : Int) : Rat) / ((2 : Int) : Rat)) * (a_b.2 - a_b.1)))))
def S_share_behind (line : ((List (Int × Int)) × Int)) (loads : (List (Rat × Int))) (span : Int) : Prop :=
  S_span_ends line span ∧ (bnd (F_span_ends line span) fun (a_b : (Rat × Rat)) => S_loads_in line loads span ∧ (F_loads_in line loads span).length ≤ sizeLine ∧ (∀ at_weight ∈ (F_loads_in line loads span), Q2 a_b.2 at_weight.1 ∧ Q2 ((at_weight.2 : Int) : Rat) (a_b.2 - at_weight.1) ∧ Q2 a_b.2 a_b.1 ∧ Qd (((at_weight.2 : Int) : Rat) * (a_b.2 - at_weight.1)) (a_b.2 - a_b.1)) ∧ (bnd ((F_loads_in line loads span).map fun (at_weight : (Rat × Int)) => ((((at_weight.2 : Int) : Rat) * (a_b.2 - at_weight.1)) / (a_b.2 - a_b.1))) fun (some_ : (List Rat)) => S_sum_of some_ ∧ Qf line.2 2 ∧ Q2 a_b.2 a_b.1 ∧ Q2 (((line.2 : Int) : Rat) / ((2 : Int) : Rat)) (a_b.2 - a_b.1) ∧ Q2 (F_sum_of some_) ((((line.2 : Int) : Rat) / ((2 : Int) : Rat)) * (a_b.2 - a_b.1))))
theorem T_share_behind (line : ((List (Int × Int)) × Int)) (loads : (List (Rat × Int))) (span : Int) (h : S_share_behind line loads span) : m_share_behind [(enc2 (encL (enc2 PyData.int PyData.int)) PyData.int) line, (encL (enc2 encQ PyData.int)) loads, PyData.int span] = .ok (encQ (F_share_behind line loads span)) :=
  t_fn (b := b_share_behind) (eτ := encQ) rfl
  ((ts_p [vv (enc2 (encL (enc2 PyData.int PyData.int)) PyData.int) line, vv (encL (enc2 encQ PyData.int)) loads, vv PyData.int span, none, none, none, none, none] rfl (ts_asgG (QQ := QF encQ) (eγ := (enc2 encQ encQ)) (t_seq (t_cons (t_get rfl) (t_cons (t_get rfl) t_nil)) (T_span_ends _ _ h.1)) h.2 (fun a_b => (tg_t (tg_c tg_n (tg_c tg_n tg_e)) rfl)) (fun a_b hb1 =>
  (ts_p [vv (enc2 (encL (enc2 PyData.int PyData.int)) PyData.int) line, vv (encL (enc2 encQ PyData.int)) loads, vv PyData.int span, vv encQ a_b.1, vv encQ a_b.2, none, none, none] rfl (ts_setLG (QQ := QF encQ) (eγ := encQ) (t_lc0 (e := (enc2 encQ PyData.int)) (xs := (F_loads_in line loads span)) (e' := encQ) (t_items (t_seq (t_cons (t_get rfl) (t_cons (t_get rfl) (t_cons (t_get rfl) t_nil))) (T_loads_in _ _ _ hb1.1)) f_items) hb1.2.1 (fun at_weight => (tg_t (tg_c tg_n (tg_c tg_n tg_e)) rfl)) (fun at_weight hx2 => (tm_p [vv (enc2 (encL (enc2 PyData.int PyData.int)) PyData.int) line, vv (encL (enc2 encQ PyData.int)) loads, vv PyData.int span, vv encQ a_b.1, vv encQ a_b.2, none, vv encQ at_weight.1, vv PyData.int at_weight.2] rfl (t_seq (t_cons (t_seq (t_cons (t_seq (t_cons (t_get rfl) t_nil) (T_whole _)) (t_cons (t_seq (t_cons (t_get rfl) (t_cons (t_get rfl) t_nil)) (T_minus _ _ (hb1.2.2.1 at_weight hx2).1)) t_nil)) (T_times _ _ (hb1.2.2.1 at_weight hx2).2.1)) (t_cons (t_seq (t_cons (t_get rfl) (t_cons (t_get rfl) t_nil)) (T_minus _ _ (hb1.2.2.1 at_weight hx2).2.2.1)) t_nil)) (T_over _ _ (hb1.2.2.1 at_weight hx2).2.2.2))))) hb1.2.2.2 (fun some_ hb3 =>
  (ts_p [vv (enc2 (encL (enc2 PyData.int PyData.int)) PyData.int) line, vv (encL (enc2 encQ PyData.int)) loads, vv PyData.int span, vv encQ a_b.1, vv encQ a_b.2, vv (encL encQ) some_, none, none] rfl (ts_end (ts_retF (t_seq (t_cons (t_seq (t_cons (t_get rfl) t_nil) (T_sum_of _ hb3.1)) (t_cons (t_seq (t_cons (t_seq (t_cons (t_2 (t_get rfl) t_c (f_i1 _ _ _)) (t_cons t_c t_nil)) (T_fraction _ _ hb3.2.1)) (t_cons (t_seq (t_cons (t_get rfl) (t_cons (t_get rfl) t_nil)) (T_minus _ _ hb3.2.2.1)) t_nil)) (T_times _ _ hb3.2.2.2.1)) t_nil)) (T_plus _ _ hb3.2.2.2.2))))))))))))
noncomputable def F_burden (line : ((List (Int × Int)) × Int)) (loads : (List (Rat × Int))) (tower : Int) : Rat :=
  (bnd (((line.1.getD (tower).toNat (0, 0)).1 : Int) : Rat) fun (here : Rat) =>
  (bnd (F_sum_of ((loads.filter fun (at_weight : (Rat × Int)) => (decide (at_weight.1 = here))).map fun (at_weight : (Rat × Int)) => ((at_weight.2 : Int) : Rat))) fun (found : Rat) =>
  (bnd (if (decide (0 < tower)) = true then (bnd (found + (F_share_ahead line loads (tower - 1))) fun (found3 : Rat) =>
  found3) else found) fun (found2 : Rat) =>
  (bnd (if (decide (tower < (F_span_count line))) = true then (bnd (found2 + (F_share_behind line loads tower)) fun (found5 : Rat) =>
  found5) else found2) fun (found4 : Rat) =>
  found4))))
def S_burden (line : ((List (Int × Int)) × Int)) (loads : (List (Rat × Int))) (tower : Int) : Prop :=
  ixOk line.1.length tower ∧ (bnd (((line.1.getD (tower).toNat (0, 0)).1 : Int) : Rat) fun (here : Rat) => loads.length ≤ sizeLine ∧ (S_sum_of ((loads.filter fun (at_weight : (Rat × Int)) => (decide (at_weight.1 = here))).map fun (at_weight : (Rat × Int)) => ((at_weight.2 : Int) : Rat))) ∧ (bnd (F_sum_of ((loads.filter fun (at_weight : (Rat × Int)) => (decide (at_weight.1 = here))).map fun (at_weight : (Rat × Int)) => ((at_weight.2 : Int) : Rat))) fun (found : Rat) => ((decide (0 < tower)) = true → S_share_ahead line loads (tower - 1) ∧ Q2 found (F_share_ahead line loads (tower - 1))) ∧ (bnd (if (decide (0 < tower)) = true then (bnd (found + (F_share_ahead line loads (tower - 1))) fun (found3 : Rat) =>
  found3) else found) fun (found2 : Rat) => ((decide (tower < (F_span_count line))) = true → S_share_behind line loads tower ∧ Q2 found2 (F_share_behind line loads tower)))))
theorem T_burden (line : ((List (Int × Int)) × Int)) (loads : (List (Rat × Int))) (tower : Int) (h : S_burden line loads tower) : m_burden [(enc2 (encL (enc2 PyData.int PyData.int)) PyData.int) line, (encL (enc2 encQ PyData.int)) loads, PyData.int tower] = .ok (encQ (F_burden line loads tower)) :=
  t_fn (b := b_burden) (eτ := encQ) rfl
  ((ts_p [vv (enc2 (encL (enc2 PyData.int PyData.int)) PyData.int) line, vv (encL (enc2 encQ PyData.int)) loads, vv PyData.int tower, none, none, none, none] rfl (ts_setG (QQ := QF encQ) (eγ := encQ) (t_seq (t_cons (t_2 (t_2 (t_2 (t_get rfl) t_c (f_i0 _ _)) (t_get rfl) (f_idxL (d := (0, 0)) h.1)) t_c (f_i0 _ _)) t_nil) (T_whole _)) h.2 (fun here hb1 =>
  (ts_p [vv (enc2 (encL (enc2 PyData.int PyData.int)) PyData.int) line, vv (encL (enc2 encQ PyData.int)) loads, vv PyData.int tower, vv encQ here, none, none, none] rfl (ts_setG (QQ := QF encQ) (eγ := encQ) (t_seq (t_cons (t_L (t_lc (e := (enc2 encQ PyData.int)) (xs := loads) (e' := encQ) (t_items (t_get rfl) f_items) hb1.1 (fun at_weight => (tg_t (tg_c tg_n (tg_c tg_n tg_e)) rfl)) (fun at_weight hx2 => (tm_p [vv (enc2 (encL (enc2 PyData.int PyData.int)) PyData.int) line, vv (encL (enc2 encQ PyData.int)) loads, vv PyData.int tower, vv encQ here, none, vv encQ at_weight.1, vv PyData.int at_weight.2] rfl (t_B (t_2 (t_get rfl) (t_get rfl) (f_eq eqe_Q))))) (fun at_weight hx2 hc3 => (tm_p [vv (enc2 (encL (enc2 PyData.int PyData.int)) PyData.int) line, vv (encL (enc2 encQ PyData.int)) loads, vv PyData.int tower, vv encQ here, none, vv encQ at_weight.1, vv PyData.int at_weight.2] rfl (t_seq (t_cons (t_get rfl) t_nil) (T_whole _)))))) t_nil) (T_sum_of _ hb1.2.1)) hb1.2.2 (fun found hb4 =>
  (ts_p [vv (enc2 (encL (enc2 PyData.int PyData.int)) PyData.int) line, vv (encL (enc2 encQ PyData.int)) loads, vv PyData.int tower, vv encQ here, vv encQ found, none, none] rfl (ts_joinG (QQ := QF encQ) (E := fun (found2 : Rat) => [vv (enc2 (encL (enc2 PyData.int PyData.int)) PyData.int) line, vv (encL (enc2 encQ PyData.int)) loads, vv PyData.int tower, vv encQ here, vv encQ found2, none, none]) (t_B (t_2 (t_get rfl) t_c f_gt)) (fun hc5 => (ts_p [vv (enc2 (encL (enc2 PyData.int PyData.int)) PyData.int) line, vv (encL (enc2 encQ PyData.int)) loads, vv PyData.int tower, vv encQ here, vv encQ found, none, none] rfl (ts_end (ts_setG (QQ := QJ _) (eγ := encQ) (t_seq (t_cons (t_get rfl) (t_cons (t_seq (t_cons (t_get rfl) (t_cons (t_get rfl) (t_cons (t_2 (t_get rfl) t_c f_sub) t_nil))) (T_share_ahead _ _ _ (hb4.1 hc5).1)) t_nil)) (T_plus _ _ (hb4.1 hc5).2)) (show bnd _ (fun _ => True) from trivial) (fun found3 hb6 =>
  (ts_p [vv (enc2 (encL (enc2 PyData.int PyData.int)) PyData.int) line, vv (encL (enc2 encQ PyData.int)) loads, vv PyData.int tower, vv encQ here, vv encQ found3, none, none] rfl (ts_finJ (.is (.is (.is (.is (.is (.is (.is .nil)))))))))))))) (fun hc5 => (ts_p [vv (enc2 (encL (enc2 PyData.int PyData.int)) PyData.int) line, vv (encL (enc2 encQ PyData.int)) loads, vv PyData.int tower, vv encQ here, vv encQ found, none, none] rfl (ts_finJ (.is (.is (.is (.is (.is (.is (.is .nil)))))))))) hb4.2 (fun found2 hb7 =>
  (ts_p [vv (enc2 (encL (enc2 PyData.int PyData.int)) PyData.int) line, vv (encL (enc2 encQ PyData.int)) loads, vv PyData.int tower, vv encQ here, vv encQ found2, none, none] rfl (ts_joinG (QQ := QF encQ) (E := fun (found4 : Rat) => [vv (enc2 (encL (enc2 PyData.int PyData.int)) PyData.int) line, vv (encL (enc2 encQ PyData.int)) loads, vv PyData.int tower, vv encQ here, vv encQ found4, none, none]) (t_B (t_2 (t_get rfl) (t_seq (t_cons (t_get rfl) t_nil) (T_span_count _)) f_lt)) (fun hc8 => (ts_p [vv (enc2 (encL (enc2 PyData.int PyData.int)) PyData.int) line, vv (encL (enc2 encQ PyData.int)) loads, vv PyData.int tower, vv encQ here, vv encQ found2, none, none] rfl (ts_end (ts_setG (QQ := QJ _) (eγ := encQ) (t_seq (t_cons (t_get rfl) (t_cons (t_seq (t_cons (t_get rfl) (t_cons (t_get rfl) (t_cons (t_get rfl) t_nil))) (T_share_behind _ _ _ (hb7 hc8).1)) t_nil)) (T_plus _ _ (hb7 hc8).2)) (show bnd _ (fun _ => True) from trivial) (fun found5 hb9 =>
  (ts_p [vv (enc2 (encL (enc2 PyData.int PyData.int)) PyData.int) line, vv (encL (enc2 encQ PyData.int)) loads, vv PyData.int tower, vv encQ here, vv encQ found5, none, none] rfl (ts_finJ (.is (.is (.is (.is (.is (.is (.is .nil)))))))))))))) (fun hc8 => (ts_p [vv (enc2 (encL (enc2 PyData.int PyData.int)) PyData.int) line, vv (encL (enc2 encQ PyData.int)) loads, vv PyData.int tower, vv encQ here, vv encQ found2, none, none] rfl (ts_finJ (.is (.is (.is (.is (.is (.is (.is .nil)))))))))) (show bnd _ (fun _ => True) from trivial) (fun found4 hb10 =>
  (ts_p [vv (enc2 (encL (enc2 PyData.int PyData.int)) PyData.int) line, vv (encL (enc2 encQ PyData.int)) loads, vv PyData.int tower, vv encQ here, vv encQ found4, none, none] rfl (ts_end (ts_retF (t_get rfl)))))))))))))))))
noncomputable def F_kink (line : ((List (Int × Int)) × Int)) (tower : Int) : Rat :=
  (bnd (if (decide (0 < tower)) = true then (F_slope line (tower - 1)) else (((0 : Int)) : Rat)) fun (before : Rat) =>
  (bnd (if (decide (tower < (F_span_count line))) = true then (F_slope line tower) else (((0 : Int)) : Rat)) fun (behind : Rat) =>
  (before - behind)))
def S_kink (line : ((List (Int × Int)) × Int)) (tower : Int) : Prop :=
  ((decide (0 < tower)) = true → S_slope line (tower - 1)) ∧ (bnd (if (decide (0 < tower)) = true then (F_slope line (tower - 1)) else (((0 : Int)) : Rat)) fun (before : Rat) => ((decide (tower < (F_span_count line))) = true → S_slope line tower) ∧ (bnd (if (decide (tower < (F_span_count line))) = true then (F_slope line tower) else (((0 : Int)) : Rat)) fun (behind : Rat) => Q2 before behind))
theorem T_kink (line : ((List (Int × Int)) × Int)) (tower : Int) (h : S_kink line tower) : m_kink [(enc2 (encL (enc2 PyData.int PyData.int)) PyData.int) line, PyData.int tower] = .ok (encQ (F_kink line tower)) :=
  t_fn (b := b_kink) (eτ := encQ) rfl
  ((ts_p [vv (enc2 (encL (enc2 PyData.int PyData.int)) PyData.int) line, vv PyData.int tower, none, none] rfl (ts_setG (QQ := QF encQ) (eγ := encQ) (t_if (e := encQ) (t_B (t_2 (t_get rfl) t_c f_gt)) (fun hc1 => (t_seq (t_cons (t_get rfl) (t_cons (t_2 (t_get rfl) t_c f_sub) t_nil)) (T_slope _ _ (h.1 hc1)))) (fun hc1 => (t_Q1 0 (t_as (enc2 PyData.int PyData.int) (0, 1) t_c)))) h.2 (fun before hb2 =>
  (ts_p [vv (enc2 (encL (enc2 PyData.int PyData.int)) PyData.int) line, vv PyData.int tower, vv encQ before, none] rfl (ts_setG (QQ := QF encQ) (eγ := encQ) (t_if (e := encQ) (t_B (t_2 (t_get rfl) (t_seq (t_cons (t_get rfl) t_nil) (T_span_count _)) f_lt)) (fun hc3 => (t_seq (t_cons (t_get rfl) (t_cons (t_get rfl) t_nil)) (T_slope _ _ (hb2.1 hc3)))) (fun hc3 => (t_Q1 0 (t_as (enc2 PyData.int PyData.int) (0, 1) t_c)))) hb2.2 (fun behind hb4 =>
  (ts_p [vv (enc2 (encL (enc2 PyData.int PyData.int)) PyData.int) line, vv PyData.int tower, vv encQ before, vv encQ behind] rfl (ts_end (ts_retF (t_seq (t_cons (t_get rfl) (t_cons (t_get rfl) t_nil)) (T_minus _ _ hb4))))))))))))
noncomputable def F_press (line : ((List (Int × Int)) × Int)) (loads : (List (Rat × Int))) (tension : Rat) (tower : Int) : Rat :=
  ((F_burden line loads tower) + (tension * (F_kink line tower)))
def S_press (line : ((List (Int × Int)) × Int)) (loads : (List (Rat × Int))) (tension : Rat) (tower : Int) : Prop :=
  S_burden line loads tower ∧ S_kink line tower ∧ Q2 tension (F_kink line tower) ∧ Q2 (F_burden line loads tower) (tension * (F_kink line tower))
theorem T_press (line : ((List (Int × Int)) × Int)) (loads : (List (Rat × Int))) (tension : Rat) (tower : Int) (h : S_press line loads tension tower) : m_press [(enc2 (encL (enc2 PyData.int PyData.int)) PyData.int) line, (encL (enc2 encQ PyData.int)) loads, encQ tension, PyData.int tower] = .ok (encQ (F_press line loads tension tower)) :=
  t_fn (b := b_press) (eτ := encQ) rfl
  ((ts_p [vv (enc2 (encL (enc2 PyData.int PyData.int)) PyData.int) line, vv (encL (enc2 encQ PyData.int)) loads, vv encQ tension, vv PyData.int tower] rfl (ts_end (ts_retF (t_seq (t_cons (t_seq (t_cons (t_get rfl) (t_cons (t_get rfl) (t_cons (t_get rfl) t_nil))) (T_burden _ _ _ h.1)) (t_cons (t_seq (t_cons (t_get rfl) (t_cons (t_seq (t_cons (t_get rfl) (t_cons (t_get rfl) t_nil)) (T_kink _ _ h.2.1)) t_nil)) (T_times _ _ h.2.2.1)) t_nil)) (T_plus _ _ h.2.2.2))))))
noncomputable def F_law (script : (List Int)) : Bool :=
  (bnd (F_law_line script 0 8) fun (line : ((List (Int × Int)) × Int)) =>
  (bnd (F_law_loads script 1 line 7) fun (loads : (List (Rat × Int))) =>
  (bnd (F_law_numbers (F_law_cell script 2) 8 5040) fun (draws : (List Int)) =>
  (bnd ((((1 + (draws.getD 0 0)) : Int) : Rat) / (((1 + ((draws.getD 1 0) % 30)) : Int) : Rat)) fun (tension : Rat) =>
  (Lp.el (loopR (fun (s : Unit) (x_top : (Int × Int)) => ((if (!decide ((F_height line loads tension (((x_top.1 : Int)) : Rat)) = (((x_top.2 : Int)) : Rat))) = true then Stp.rt false
  else Stp.nx ()) : Stp (Unit) Bool)) line.1 ()) (fun v => v) fun (s2 : Unit) =>
  (bnd (line.1.map fun (x_top2 : (Int × Int)) => (((x_top2.1 : Int)) : Rat)) fun (marks : (List Rat)) =>
  (bnd (loads.foldl (fun (marks2 : (List Rat)) (load : (Rat × Int)) =>
  (bnd (((marks2.filter fun (mark : Rat) => (decide (mark < load.1))).map fun (mark : Rat) => mark).length : Int) fun (spot : Int) =>
  (if (!decide (load.1 ∈ marks2)) = true then (bnd ((((marks2.drop 0).take ((spot).toNat - 0)) ++ ([load.1] : List Rat)) ++ (marks2.drop (spot).toNat)) fun (marks3 : (List Rat)) =>
  marks3)
  else marks2))) marks) fun (marks22 : (List Rat)) =>
  (bnd (line.1.map fun (x_top3 : (Int × Int)) => (((x_top3.1 : Int)) : Rat)) fun (towers : (List Rat)) =>
  (Lp.el (loopR (fun (s3 : Unit) (k : Int) => ((bnd (F_law_middle (marks22.getD ((k - 1)).toNat 0) (marks22.getD (k).toNat 0)) fun (middle : Rat) =>
  (bnd (F_law_slope_between line loads tension (marks22.getD ((k - 1)).toNat 0) middle) fun (near : Rat) =>
  (if (!decide (near = (F_law_slope_between line loads tension middle (marks22.getD (k).toNat 0)))) = true then Stp.rt false
  else (if ((decide ((k + 1) < (marks22.length : Int))) && (!decide ((marks22.getD (k).toNat 0) ∈ towers))) = true then (bnd (F_law_slope_between line loads tension (marks22.getD (k).toNat 0) (F_law_middle (marks22.getD (k).toNat 0) (marks22.getD ((k + 1)).toNat 0))) fun (far : Rat) =>
  (bnd ((loads.filter fun (load2 : (Rat × Int)) => (decide (load2.1 = (marks22.getD (k).toNat 0)))).map fun (load2 : (Rat × Int)) => load2.2).sum fun (weight : Int) =>
  (if (!decide ((far - near) = ((((weight : Int)) : Rat) / tension))) = true then Stp.rt false
  else Stp.nx ())))
  else Stp.nx ())))) : Stp (Unit) Bool)) (rngI 1 (marks22.length : Int)) ()) (fun v => v) fun (s32 : Unit) =>
  (bnd (loads.foldl (fun (split : (List (Rat × Int))) (at_weight : (Rat × Int)) =>
  (if (decide (1 < at_weight.2)) = true then (bnd (split ++ ([(at_weight.1, 1), (at_weight.1, (at_weight.2 - 1))] : List (Rat × Int))) fun (split2 : (List (Rat × Int))) =>
  split2)
  else (split ++ [(at_weight.1, at_weight.2)]))) []) fun (split3 : (List (Rat × Int))) =>
  (bnd (F_law_place line (draws.getD 2 0) (draws.getD 3 0)) fun (place : Rat) =>
  (if ((!decide ((F_moment line split3 place) = (F_moment line loads place))) || (!decide ((F_height line split3 tension place) = (F_height line loads tension place)))) = true then false
  else (bnd (((0 : Int)) : Rat) fun (alone : Rat) =>
  (bnd (loads.foldl (fun (alone2 : Rat) (load3 : (Rat × Int)) =>
  (bnd (alone2 + (F_moment (line.1, 0) ([load3] : List (Rat × Int)) place)) fun (alone3 : Rat) =>
  alone3)) alone) fun (alone22 : Rat) =>
  (if (!decide ((alone22 + (F_moment line [] place)) = (F_moment line loads place))) = true then false
  else (Lp.el (loopR (fun (s4 : Unit) (tower : Int) => ((if (!decide ((F_press line split3 tension tower) = (F_press line loads tension tower))) = true then Stp.rt false
  else Stp.nx ()) : Stp (Unit) Bool)) (rngI 0 (towers.length : Int)) ()) (fun v => v) fun (s42 : Unit) =>
  true))))))))))))))))
def S_law (script : (List Int)) : Prop :=
  S_law_line script 0 8 ∧ (bnd (F_law_line script 0 8) fun (line : ((List (Int × Int)) × Int)) => S_law_loads script 1 line 7 ∧ (bnd (F_law_loads script 1 line 7) fun (loads : (List (Rat × Int))) => S_law_cell script 2 ∧ S_law_numbers (F_law_cell script 2) 8 5040 ∧ (bnd (F_law_numbers (F_law_cell script 2) 8 5040) fun (draws : (List Int)) => 0 < draws.length ∧ 1 < draws.length ∧ Qf (1 + (draws.getD 0 0)) (1 + ((draws.getD 1 0) % 30)) ∧ (bnd ((((1 + (draws.getD 0 0)) : Int) : Rat) / (((1 + ((draws.getD 1 0) % 30)) : Int) : Rat)) fun (tension : Rat) => LpR (fun (s : Unit) (x_top : (Int × Int)) => S_height line loads tension (((x_top.1 : Int)) : Rat)) (fun (s : Unit) (x_top : (Int × Int)) => ((if (!decide ((F_height line loads tension (((x_top.1 : Int)) : Rat)) = (((x_top.2 : Int)) : Rat))) = true then Stp.rt false
  else Stp.nx ()) : Stp (Unit) Bool)) line.1 () ∧ (∀ (s2 : Unit), (loopR (fun (s : Unit) (x_top : (Int × Int)) => ((if (!decide ((F_height line loads tension (((x_top.1 : Int)) : Rat)) = (((x_top.2 : Int)) : Rat))) = true then Stp.rt false
  else Stp.nx ()) : Stp (Unit) Bool)) line.1 ()) = Lp.nx s2 → line.1.length ≤ sizeLine ∧ (bnd (line.1.map fun (x_top2 : (Int × Int)) => (((x_top2.1 : Int)) : Rat)) fun (marks : (List Rat)) => LpS (fun (marks2 : (List Rat)) (load : (Rat × Int)) => marks2.length ≤ sizeLine ∧ (∀ mark ∈ marks2, Q2 mark load.1) ∧ (bnd (((marks2.filter fun (mark : Rat) => (decide (mark < load.1))).map fun (mark : Rat) => mark).length : Int) fun (spot : Int) => ((!decide (load.1 ∈ marks2)) = true → 0 ≤ spot ∧ ((marks2.drop 0).take ((spot).toNat - 0)).length + ([load.1] : List Rat).length ≤ sizeLine ∧ (((marks2.drop 0).take ((spot).toNat - 0)) ++ ([load.1] : List Rat)).length + (marks2.drop (spot).toNat).length ≤ sizeLine))) (fun (marks2 : (List Rat)) (load : (Rat × Int)) =>
  (bnd (((marks2.filter fun (mark : Rat) => (decide (mark < load.1))).map fun (mark : Rat) => mark).length : Int) fun (spot : Int) =>
  (if (!decide (load.1 ∈ marks2)) = true then (bnd ((((marks2.drop 0).take ((spot).toNat - 0)) ++ ([load.1] : List Rat)) ++ (marks2.drop (spot).toNat)) fun (marks3 : (List Rat)) =>
  marks3)
  else marks2))) loads marks ∧ (bnd (loads.foldl (fun (marks2 : (List Rat)) (load : (Rat × Int)) =>
  (bnd (((marks2.filter fun (mark : Rat) => (decide (mark < load.1))).map fun (mark : Rat) => mark).length : Int) fun (spot : Int) =>
  (if (!decide (load.1 ∈ marks2)) = true then (bnd ((((marks2.drop 0).take ((spot).toNat - 0)) ++ ([load.1] : List Rat)) ++ (marks2.drop (spot).toNat)) fun (marks3 : (List Rat)) =>
  marks3)
  else marks2))) marks) fun (marks22 : (List Rat)) => (bnd (line.1.map fun (x_top3 : (Int × Int)) => (((x_top3.1 : Int)) : Rat)) fun (towers : (List Rat)) => r62 (marks22.length : Int) ∧ LpR (fun (s3 : Unit) (k : Int) => ixOk marks22.length (k - 1) ∧ ixOk marks22.length k ∧ S_law_middle (marks22.getD ((k - 1)).toNat 0) (marks22.getD (k).toNat 0) ∧ (bnd (F_law_middle (marks22.getD ((k - 1)).toNat 0) (marks22.getD (k).toNat 0)) fun (middle : Rat) => S_law_slope_between line loads tension (marks22.getD ((k - 1)).toNat 0) middle ∧ (bnd (F_law_slope_between line loads tension (marks22.getD ((k - 1)).toNat 0) middle) fun (near : Rat) => S_law_slope_between line loads tension middle (marks22.getD (k).toNat 0) ∧ ((!decide (near = (F_law_slope_between line loads tension middle (marks22.getD (k).toNat 0)))) = false → (((decide ((k + 1) < (marks22.length : Int))) && (!decide ((marks22.getD (k).toNat 0) ∈ towers))) = true → ixOk marks22.length (k + 1) ∧ S_law_middle (marks22.getD (k).toNat 0) (marks22.getD ((k + 1)).toNat 0) ∧ S_law_slope_between line loads tension (marks22.getD (k).toNat 0) (F_law_middle (marks22.getD (k).toNat 0) (marks22.getD ((k + 1)).toNat 0)) ∧ (bnd (F_law_slope_between line loads tension (marks22.getD (k).toNat 0) (F_law_middle (marks22.getD (k).toNat 0) (marks22.getD ((k + 1)).toNat 0))) fun (far : Rat) => loads.length ≤ sizeLine ∧ (bnd ((loads.filter fun (load2 : (Rat × Int)) => (decide (load2.1 = (marks22.getD (k).toNat 0)))).map fun (load2 : (Rat × Int)) => load2.2).sum fun (weight : Int) => Q2 far near ∧ Qd (((weight : Int)) : Rat) tension))))))) (fun (s3 : Unit) (k : Int) => ((bnd (F_law_middle (marks22.getD ((k - 1)).toNat 0) (marks22.getD (k).toNat 0)) fun (middle : Rat) =>
  (bnd (F_law_slope_between line loads tension (marks22.getD ((k - 1)).toNat 0) middle) fun (near : Rat) =>
  (if (!decide (near = (F_law_slope_between line loads tension middle (marks22.getD (k).toNat 0)))) = true then Stp.rt false
  else (if ((decide ((k + 1) < (marks22.length : Int))) && (!decide ((marks22.getD (k).toNat 0) ∈ towers))) = true then (bnd (F_law_slope_between line loads tension (marks22.getD (k).toNat 0) (F_law_middle (marks22.getD (k).toNat 0) (marks22.getD ((k + 1)).toNat 0))) fun (far : Rat) =>
  (bnd ((loads.filter fun (load2 : (Rat × Int)) => (decide (load2.1 = (marks22.getD (k).toNat 0)))).map fun (load2 : (Rat × Int)) => load2.2).sum fun (weight : Int) =>
  (if (!decide ((far - near) = ((((weight : Int)) : Rat) / tension))) = true then Stp.rt false
  else Stp.nx ())))
  else Stp.nx ())))) : Stp (Unit) Bool)) (rngI 1 (marks22.length : Int)) () ∧ (∀ (s32 : Unit), (loopR (fun (s3 : Unit) (k : Int) => ((bnd (F_law_middle (marks22.getD ((k - 1)).toNat 0) (marks22.getD (k).toNat 0)) fun (middle : Rat) =>
  (bnd (F_law_slope_between line loads tension (marks22.getD ((k - 1)).toNat 0) middle) fun (near : Rat) =>
  (if (!decide (near = (F_law_slope_between line loads tension middle (marks22.getD (k).toNat 0)))) = true then Stp.rt false
  else (if ((decide ((k + 1) < (marks22.length : Int))) && (!decide ((marks22.getD (k).toNat 0) ∈ towers))) = true then (bnd (F_law_slope_between line loads tension (marks22.getD (k).toNat 0) (F_law_middle (marks22.getD (k).toNat 0) (marks22.getD ((k + 1)).toNat 0))) fun (far : Rat) =>
  (bnd ((loads.filter fun (load2 : (Rat × Int)) => (decide (load2.1 = (marks22.getD (k).toNat 0)))).map fun (load2 : (Rat × Int)) => load2.2).sum fun (weight : Int) =>
  (if (!decide ((far - near) = ((((weight : Int)) : Rat) / tension))) = true then Stp.rt false
  else Stp.nx ())))
  else Stp.nx ())))) : Stp (Unit) Bool)) (rngI 1 (marks22.length : Int)) ()) = Lp.nx s32 → LpS (fun (split : (List (Rat × Int))) (at_weight : (Rat × Int)) => ((decide (1 < at_weight.2)) = true → split.length + ([(at_weight.1, 1), (at_weight.1, (at_weight.2 - 1))] : List (Rat × Int)).length ≤ sizeLine) ∧ ((decide (1 < at_weight.2)) = false → split.length < sizeLine)) (fun (split : (List (Rat × Int))) (at_weight : (Rat × Int)) =>
  (if (decide (1 < at_weight.2)) = true then (bnd (split ++ ([(at_weight.1, 1), (at_weight.1, (at_weight.2 - 1))] : List (Rat × Int))) fun (split2 : (List (Rat × Int))) =>
  split2)
  else (split ++ [(at_weight.1, at_weight.2)]))) loads [] ∧ (bnd (loads.foldl (fun (split : (List (Rat × Int))) (at_weight : (Rat × Int)) =>
  (if (decide (1 < at_weight.2)) = true then (bnd (split ++ ([(at_weight.1, 1), (at_weight.1, (at_weight.2 - 1))] : List (Rat × Int))) fun (split2 : (List (Rat × Int))) =>
  split2)
  else (split ++ [(at_weight.1, at_weight.2)]))) []) fun (split3 : (List (Rat × Int))) => 2 < draws.length ∧ 3 < draws.length ∧ S_law_place line (draws.getD 2 0) (draws.getD 3 0) ∧ (bnd (F_law_place line (draws.getD 2 0) (draws.getD 3 0)) fun (place : Rat) => S_moment line split3 place ∧ S_moment line loads place ∧ ((!decide ((F_moment line split3 place) = (F_moment line loads place))) = false → S_height line split3 tension place ∧ S_height line loads tension place) ∧ (((!decide ((F_moment line split3 place) = (F_moment line loads place))) || (!decide ((F_height line split3 tension place) = (F_height line loads tension place)))) = false → (bnd (((0 : Int)) : Rat) fun (alone : Rat) => LpS (fun (alone2 : Rat) (load3 : (Rat × Int)) => S_moment (line.1, 0) ([load3] : List (Rat × Int)) place ∧ Q2 alone2 (F_moment (line.1, 0) ([load3] : List (Rat × Int)) place)) (fun (alone2 : Rat) (load3 : (Rat × Int)) =>
  (bnd (alone2 + (F_moment (line.1, 0) ([load3] : List (Rat × Int)) place)) fun (alone3 : Rat) =>
  alone3)) loads alone ∧ (bnd (loads.foldl (fun (alone2 : Rat) (load3 : (Rat × Int)) =>
  (bnd (alone2 + (F_moment (line.1, 0) ([load3] : List (Rat × Int)) place)) fun (alone3 : Rat) =>
  alone3)) alone) fun (alone22 : Rat) => S_moment line [] place ∧ Q2 alone22 (F_moment line [] place) ∧ ((!decide ((alone22 + (F_moment line [] place)) = (F_moment line loads place))) = false → r62 (towers.length : Int) ∧ LpR (fun (s4 : Unit) (tower : Int) => S_press line split3 tension tower ∧ S_press line loads tension tower) (fun (s4 : Unit) (tower : Int) => ((if (!decide ((F_press line split3 tension tower) = (F_press line loads tension tower))) = true then Stp.rt false
  else Stp.nx ()) : Stp (Unit) Bool)) (rngI 0 (towers.length : Int)) ())))))))))))))))
theorem T_law (script : (List Int)) (h : S_law script) : m_law [(encL PyData.int) script] = .ok (PyData.bool (F_law script)) :=
  t_fn (b := b_law) (eτ := PyData.bool) rfl
  ((ts_p [vv (encL PyData.int) script, none, none, none, none, none, none, none, none, none, none, none, none, none, none, none, none, none, none, none, none, none] rfl (ts_setG (QQ := QF PyData.bool) (eγ := (enc2 (encL (enc2 PyData.int PyData.int)) PyData.int)) (t_seq (t_cons (t_get rfl) (t_cons t_c (t_cons t_c t_nil))) (T_law_line _ _ _ h.1)) h.2 (fun line hb1 =>
  (ts_p [vv (encL PyData.int) script, vv (enc2 (encL (enc2 PyData.int PyData.int)) PyData.int) line, none, none, none, none, none, none, none, none, none, none, none, none, none, none, none, none, none, none, none, none] rfl (ts_setG (QQ := QF PyData.bool) (eγ := (encL (enc2 encQ PyData.int))) (t_seq (t_cons (t_get rfl) (t_cons t_c (t_cons (t_get rfl) (t_cons t_c t_nil)))) (T_law_loads _ _ _ _ hb1.1)) hb1.2 (fun loads hb2 =>
  (ts_p [vv (encL PyData.int) script, vv (enc2 (encL (enc2 PyData.int PyData.int)) PyData.int) line, vv (encL (enc2 encQ PyData.int)) loads, none, none, none, none, none, none, none, none, none, none, none, none, none, none, none, none, none, none, none] rfl (ts_setG (QQ := QF PyData.bool) (eγ := (encL PyData.int)) (t_seq (t_cons (t_seq (t_cons (t_get rfl) (t_cons t_c t_nil)) (T_law_cell _ _ hb2.1)) (t_cons t_c (t_cons t_c t_nil))) (T_law_numbers _ _ _ hb2.2.1)) hb2.2.2 (fun draws hb3 =>
  (ts_p [vv (encL PyData.int) script, vv (enc2 (encL (enc2 PyData.int PyData.int)) PyData.int) line, vv (encL (enc2 encQ PyData.int)) loads, vv (encL PyData.int) draws, none, none, none, none, none, none, none, none, none, none, none, none, none, none, none, none, none, none] rfl (ts_setG (QQ := QF PyData.bool) (eγ := encQ) (t_seq (t_cons (t_2 t_c (t_2 (t_get rfl) t_c (f_idxK (d := 0) 0 rfl hb3.1)) f_add) (t_cons (t_2 t_c (t_2 (t_2 (t_get rfl) t_c (f_idxK (d := 0) 1 rfl hb3.2.1)) t_c (f_mod (by decide))) f_add) t_nil)) (T_law_frac _ _ hb3.2.2.1)) hb3.2.2.2 (fun tension hb4 =>
  (ts_p [vv (encL PyData.int) script, vv (enc2 (encL (enc2 PyData.int PyData.int)) PyData.int) line, vv (encL (enc2 encQ PyData.int)) loads, vv (encL PyData.int) draws, vv encQ tension, none, none, none, none, none, none, none, none, none, none, none, none, none, none, none, none, none] rfl (ts_forRU (QQ := QF PyData.bool) (e := (enc2 PyData.int PyData.int)) (xs := line.1) (eτ := PyData.bool) (F := (fun (s : Unit) (x_top : (Int × Int)) => ((if (!decide ((F_height line loads tension (((x_top.1 : Int)) : Rat)) = (((x_top.2 : Int)) : Rat))) = true then Stp.rt false
  else Stp.nx ()) : Stp (Unit) Bool))) (S := (fun (s : Unit) (x_top : (Int × Int)) => S_height line loads tension (((x_top.1 : Int)) : Rat))) (E := fun (s : Unit) => [vv (encL PyData.int) script, vv (enc2 (encL (enc2 PyData.int PyData.int)) PyData.int) line, vv (encL (enc2 encQ PyData.int)) loads, vv (encL PyData.int) draws, vv encQ tension, none, none, none, none, none, none, none, none, none, none, none, none, none, none, none, none, none]) (K := fun v => v) (fun _ _ => kF) (.is (.is (.is (.is (.is (.any (.any (.is (.is (.is (.is (.is (.is (.is (.is (.is (.is (.is (.is (.is (.is (.is .nil)))))))))))))))))))))) (t_items (t_2 (t_get rfl) t_c (f_i0 _ _)) f_items) hb4.1 (fun s x_top => (tg_t (tg_c tg_n (tg_c tg_n tg_e)) rfl)) (fun s x_top hx6 hb5 =>
  (ts_p [vv (encL PyData.int) script, vv (enc2 (encL (enc2 PyData.int PyData.int)) PyData.int) line, vv (encL (enc2 encQ PyData.int)) loads, vv (encL PyData.int) draws, vv encQ tension, vv PyData.int x_top.1, vv PyData.int x_top.2, none, none, none, none, none, none, none, none, none, none, none, none, none, none, none] rfl (ts_end (ts_if (QQ := QL _ PyData.bool) (t_B (t_2 (t_seq (t_cons (t_get rfl) (t_cons (t_get rfl) (t_cons (t_get rfl) (t_cons (t_Q1 x_top.1 (t_as (enc2 PyData.int PyData.int) (x_top.1, 1) (t_seq (t_cons (t_get rfl) (t_cons t_c t_nil)) (mTup_ok rfl)))) t_nil)))) (T_height _ _ _ _ hb5)) (t_Q1 x_top.2 (t_as (enc2 PyData.int PyData.int) (x_top.2, 1) (t_seq (t_cons (t_get rfl) (t_cons t_c t_nil)) (mTup_ok rfl)))) (f_ne eqe_Q))) (fun hc7 => (ts_retL t_c))
  (fun hc7 => (ts_nx (ts_p [vv (encL PyData.int) script, vv (enc2 (encL (enc2 PyData.int PyData.int)) PyData.int) line, vv (encL (enc2 encQ PyData.int)) loads, vv (encL PyData.int) draws, vv encQ tension, vv PyData.int x_top.1, vv PyData.int x_top.2, none, none, none, none, none, none, none, none, none, none, none, none, none, none, none] rfl (ts_finL (.is (.is (.is (.is (.is (.any (.any (.is (.is (.is (.is (.is (.is (.is (.is (.is (.is (.is (.is (.is (.is (.is .nil)))))))))))))))))))))))))))))) (fun s2 hb8 =>
  (ts_p [vv (encL PyData.int) script, vv (enc2 (encL (enc2 PyData.int PyData.int)) PyData.int) line, vv (encL (enc2 encQ PyData.int)) loads, vv (encL PyData.int) draws, vv encQ tension, none, none, none, none, none, none, none, none, none, none, none, none, none, none, none, none, none] rfl (ts_setG (QQ := QF PyData.bool) (eγ := (encL encQ)) (t_L (t_lc0 (e := (enc2 PyData.int PyData.int)) (xs := line.1) (e' := encQ) (t_items (t_2 (t_get rfl) t_c (f_i0 _ _)) f_items) (hb4.2 s2 hb8).1 (fun x_top2 => (tg_t (tg_c tg_n (tg_c tg_n tg_e)) rfl)) (fun x_top2 hx9 => (tm_p [vv (encL PyData.int) script, vv (enc2 (encL (enc2 PyData.int PyData.int)) PyData.int) line, vv (encL (enc2 encQ PyData.int)) loads, vv (encL PyData.int) draws, vv encQ tension, vv PyData.int x_top2.1, vv PyData.int x_top2.2, none, none, none, none, none, none, none, none, none, none, none, none, none, none, none] rfl (t_Q1 x_top2.1 (t_as (enc2 PyData.int PyData.int) (x_top2.1, 1) (t_seq (t_cons (t_get rfl) (t_cons t_c t_nil)) (mTup_ok rfl)))))))) (hb4.2 s2 hb8).2 (fun marks hb10 =>
  (ts_p [vv (encL PyData.int) script, vv (enc2 (encL (enc2 PyData.int PyData.int)) PyData.int) line, vv (encL (enc2 encQ PyData.int)) loads, vv (encL PyData.int) draws, vv encQ tension, none, none, vv (encL encQ) marks, none, none, none, none, none, none, none, none, none, none, none, none, none, none] rfl (ts_forG (QQ := QF PyData.bool) (e := (enc2 encQ PyData.int)) (xs := loads) (eτ := eE) (F := (fun (marks2 : (List Rat)) (load : (Rat × Int)) =>
  (bnd (((marks2.filter fun (mark : Rat) => (decide (mark < load.1))).map fun (mark : Rat) => mark).length : Int) fun (spot : Int) =>
  (if (!decide (load.1 ∈ marks2)) = true then (bnd ((((marks2.drop 0).take ((spot).toNat - 0)) ++ ([load.1] : List Rat)) ++ (marks2.drop (spot).toNat)) fun (marks3 : (List Rat)) =>
  marks3)
  else marks2)))) (S := (fun (marks2 : (List Rat)) (load : (Rat × Int)) => marks2.length ≤ sizeLine ∧ (∀ mark ∈ marks2, Q2 mark load.1) ∧ (bnd (((marks2.filter fun (mark : Rat) => (decide (mark < load.1))).map fun (mark : Rat) => mark).length : Int) fun (spot : Int) => ((!decide (load.1 ∈ marks2)) = true → 0 ≤ spot ∧ ((marks2.drop 0).take ((spot).toNat - 0)).length + ([load.1] : List Rat).length ≤ sizeLine ∧ (((marks2.drop 0).take ((spot).toNat - 0)) ++ ([load.1] : List Rat)).length + (marks2.drop (spot).toNat).length ≤ sizeLine)))) (E := fun (marks2 : (List Rat)) => [vv (encL PyData.int) script, vv (enc2 (encL (enc2 PyData.int PyData.int)) PyData.int) line, vv (encL (enc2 encQ PyData.int)) loads, vv (encL PyData.int) draws, vv encQ tension, none, none, vv (encL encQ) marks2, none, none, none, none, none, none, none, none, none, none, none, none, none, none]) (.is (.is (.is (.is (.is (.is (.is (.is (.any (.any (.is (.is (.is (.is (.is (.is (.is (.is (.is (.is (.is (.is .nil)))))))))))))))))))))) (t_items (t_get rfl) f_items) hb10.1 (fun marks2 load => tg_n) (fun marks2 load hx12 hb11 =>
  (ts_p [vv (encL PyData.int) script, vv (enc2 (encL (enc2 PyData.int PyData.int)) PyData.int) line, vv (encL (enc2 encQ PyData.int)) loads, vv (encL PyData.int) draws, vv encQ tension, none, none, vv (encL encQ) marks2, vv (enc2 encQ PyData.int) load, none, none, none, none, none, none, none, none, none, none, none, none, none] rfl (ts_setG (QQ := fun z => QL _ eE (Stp.nx z)) (eγ := PyData.int) (t_call (t_cons (t_L (t_lc (e := encQ) (xs := marks2) (e' := encQ) (t_items (t_get rfl) f_items) hb11.1 (fun mark => tg_n) (fun mark hx13 => (tm_p [vv (encL PyData.int) script, vv (enc2 (encL (enc2 PyData.int PyData.int)) PyData.int) line, vv (encL (enc2 encQ PyData.int)) loads, vv (encL PyData.int) draws, vv encQ tension, none, none, vv (encL encQ) marks2, vv (enc2 encQ PyData.int) load, none, vv encQ mark, none, none, none, none, none, none, none, none, none, none, none] rfl (t_T (t_seq (t_cons (t_get rfl) (t_cons (t_2 (t_get rfl) t_c (f_i0 _ _)) t_nil)) (T_law_less _ _ (hb11.2.1 mark hx13))) f_truB))) (fun mark hx13 hc14 => (tm_p [vv (encL PyData.int) script, vv (enc2 (encL (enc2 PyData.int PyData.int)) PyData.int) line, vv (encL (enc2 encQ PyData.int)) loads, vv (encL PyData.int) draws, vv encQ tension, none, none, vv (encL encQ) marks2, vv (enc2 encQ PyData.int) load, none, vv encQ mark, none, none, none, none, none, none, none, none, none, none, none] rfl (t_get rfl))))) t_nil) f_lenL) hb11.2.2 (fun spot hb15 =>
  (ts_p [vv (encL PyData.int) script, vv (enc2 (encL (enc2 PyData.int PyData.int)) PyData.int) line, vv (encL (enc2 encQ PyData.int)) loads, vv (encL PyData.int) draws, vv encQ tension, none, none, vv (encL encQ) marks2, vv (enc2 encQ PyData.int) load, vv PyData.int spot, none, none, none, none, none, none, none, none, none, none, none, none] rfl (ts_end (ts_if (QQ := fun z => QL _ eE (Stp.nx z)) (t_B (t_2 (t_2 (t_get rfl) t_c (f_i0 _ _)) (t_get rfl) (f_notin eqe_Q))) (fun hc16 => (ts_setG (QQ := fun z => QL _ eE (Stp.nx z)) (eγ := (encL encQ)) (t_2 (t_2 (t_cut (t_get rfl) (t_part t_c) (t_part (t_get rfl)) (f_cut2 (a := 0) (b := spot) (by decide) (hb15 hc16).1)) (t_as (encL encQ) ([load.1] : List Rat) (t_seq (t_cons (t_2 (t_get rfl) t_c (f_i0 _ _)) t_nil) (mLst_ok rfl))) (f_addL (hb15 hc16).2.1)) (t_cut (t_get rfl) (t_part (t_get rfl)) t_no (f_cut1 (a := spot) (hb15 hc16).1)) (f_addL (hb15 hc16).2.2)) (show bnd _ (fun _ => True) from trivial) (fun marks3 hb17 =>
  (ts_p [vv (encL PyData.int) script, vv (enc2 (encL (enc2 PyData.int PyData.int)) PyData.int) line, vv (encL (enc2 encQ PyData.int)) loads, vv (encL PyData.int) draws, vv encQ tension, none, none, vv (encL encQ) marks3, vv (enc2 encQ PyData.int) load, vv PyData.int spot, none, none, none, none, none, none, none, none, none, none, none, none] rfl (ts_finL (.is (.is (.is (.is (.is (.is (.is (.is (.any (.any (.is (.is (.is (.is (.is (.is (.is (.is (.is (.is (.is (.is .nil)))))))))))))))))))))))))))
  (fun hc16 => (ts_nx (ts_p [vv (encL PyData.int) script, vv (enc2 (encL (enc2 PyData.int PyData.int)) PyData.int) line, vv (encL (enc2 encQ PyData.int)) loads, vv (encL PyData.int) draws, vv encQ tension, none, none, vv (encL encQ) marks2, vv (enc2 encQ PyData.int) load, vv PyData.int spot, none, none, none, none, none, none, none, none, none, none, none, none] rfl (ts_finL (.is (.is (.is (.is (.is (.is (.is (.is (.any (.any (.is (.is (.is (.is (.is (.is (.is (.is (.is (.is (.is (.is .nil))))))))))))))))))))))))))))))))) hb10.2 (fun marks22 hb18 =>
  (ts_p [vv (encL PyData.int) script, vv (enc2 (encL (enc2 PyData.int PyData.int)) PyData.int) line, vv (encL (enc2 encQ PyData.int)) loads, vv (encL PyData.int) draws, vv encQ tension, none, none, vv (encL encQ) marks22, none, none, none, none, none, none, none, none, none, none, none, none, none, none] rfl (ts_setLG (QQ := QF PyData.bool) (eγ := encQ) (t_lc0 (e := (enc2 PyData.int PyData.int)) (xs := line.1) (e' := encQ) (t_items (t_2 (t_get rfl) t_c (f_i0 _ _)) f_items) (hb4.2 s2 hb8).1 (fun x_top3 => (tg_t (tg_c tg_n (tg_c tg_n tg_e)) rfl)) (fun x_top3 hx19 => (tm_p [vv (encL PyData.int) script, vv (enc2 (encL (enc2 PyData.int PyData.int)) PyData.int) line, vv (encL (enc2 encQ PyData.int)) loads, vv (encL PyData.int) draws, vv encQ tension, vv PyData.int x_top3.1, vv PyData.int x_top3.2, vv (encL encQ) marks22, none, none, none, none, none, none, none, none, none, none, none, none, none, none] rfl (t_Q1 x_top3.1 (t_as (enc2 PyData.int PyData.int) (x_top3.1, 1) (t_seq (t_cons (t_get rfl) (t_cons t_c t_nil)) (mTup_ok rfl))))))) hb18 (fun towers hb20 =>
  (ts_p [vv (encL PyData.int) script, vv (enc2 (encL (enc2 PyData.int PyData.int)) PyData.int) line, vv (encL (enc2 encQ PyData.int)) loads, vv (encL PyData.int) draws, vv encQ tension, none, none, vv (encL encQ) marks22, none, none, none, vv (encL encQ) towers, none, none, none, none, none, none, none, none, none, none] rfl (ts_forRU (QQ := QF PyData.bool) (e := PyData.int) (xs := (rngI 1 (marks22.length : Int))) (eτ := PyData.bool) (F := (fun (s3 : Unit) (k : Int) => ((bnd (F_law_middle (marks22.getD ((k - 1)).toNat 0) (marks22.getD (k).toNat 0)) fun (middle : Rat) =>
  (bnd (F_law_slope_between line loads tension (marks22.getD ((k - 1)).toNat 0) middle) fun (near : Rat) =>
  (if (!decide (near = (F_law_slope_between line loads tension middle (marks22.getD (k).toNat 0)))) = true then Stp.rt false
  else (if ((decide ((k + 1) < (marks22.length : Int))) && (!decide ((marks22.getD (k).toNat 0) ∈ towers))) = true then (bnd (F_law_slope_between line loads tension (marks22.getD (k).toNat 0) (F_law_middle (marks22.getD (k).toNat 0) (marks22.getD ((k + 1)).toNat 0))) fun (far : Rat) =>
  (bnd ((loads.filter fun (load2 : (Rat × Int)) => (decide (load2.1 = (marks22.getD (k).toNat 0)))).map fun (load2 : (Rat × Int)) => load2.2).sum fun (weight : Int) =>
  (if (!decide ((far - near) = ((((weight : Int)) : Rat) / tension))) = true then Stp.rt false
  else Stp.nx ())))
  else Stp.nx ())))) : Stp (Unit) Bool))) (S := (fun (s3 : Unit) (k : Int) => ixOk marks22.length (k - 1) ∧ ixOk marks22.length k ∧ S_law_middle (marks22.getD ((k - 1)).toNat 0) (marks22.getD (k).toNat 0) ∧ (bnd (F_law_middle (marks22.getD ((k - 1)).toNat 0) (marks22.getD (k).toNat 0)) fun (middle : Rat) => S_law_slope_between line loads tension (marks22.getD ((k - 1)).toNat 0) middle ∧ (bnd (F_law_slope_between line loads tension (marks22.getD ((k - 1)).toNat 0) middle) fun (near : Rat) => S_law_slope_between line loads tension middle (marks22.getD (k).toNat 0) ∧ ((!decide (near = (F_law_slope_between line loads tension middle (marks22.getD (k).toNat 0)))) = false → (((decide ((k + 1) < (marks22.length : Int))) && (!decide ((marks22.getD (k).toNat 0) ∈ towers))) = true → ixOk marks22.length (k + 1) ∧ S_law_middle (marks22.getD (k).toNat 0) (marks22.getD ((k + 1)).toNat 0) ∧ S_law_slope_between line loads tension (marks22.getD (k).toNat 0) (F_law_middle (marks22.getD (k).toNat 0) (marks22.getD ((k + 1)).toNat 0)) ∧ (bnd (F_law_slope_between line loads tension (marks22.getD (k).toNat 0) (F_law_middle (marks22.getD (k).toNat 0) (marks22.getD ((k + 1)).toNat 0))) fun (far : Rat) => loads.length ≤ sizeLine ∧ (bnd ((loads.filter fun (load2 : (Rat × Int)) => (decide (load2.1 = (marks22.getD (k).toNat 0)))).map fun (load2 : (Rat × Int)) => load2.2).sum fun (weight : Int) => Q2 far near ∧ Qd (((weight : Int)) : Rat) tension)))))))) (E := fun (s3 : Unit) => [vv (encL PyData.int) script, vv (enc2 (encL (enc2 PyData.int PyData.int)) PyData.int) line, vv (encL (enc2 encQ PyData.int)) loads, vv (encL PyData.int) draws, vv encQ tension, none, none, vv (encL encQ) marks22, none, none, none, vv (encL encQ) towers, none, none, none, none, none, none, none, none, none, none]) (K := fun v => v) (fun _ _ => kF) (.is (.is (.is (.is (.is (.is (.is (.is (.is (.is (.is (.is (.any (.any (.any (.any (.any (.is (.is (.is (.is (.is .nil)))))))))))))))))))))) (t_wk (t_cons t_c (t_cons (t_call (t_cons (t_get rfl) t_nil) f_lenL) t_nil)) (f_rng2 (by decide) hb20.1)) hb20.2.1 (fun s3 k => tg_n) (fun s3 k hx22 hb21 =>
  (ts_p [vv (encL PyData.int) script, vv (enc2 (encL (enc2 PyData.int PyData.int)) PyData.int) line, vv (encL (enc2 encQ PyData.int)) loads, vv (encL PyData.int) draws, vv encQ tension, none, none, vv (encL encQ) marks22, none, none, none, vv (encL encQ) towers, vv PyData.int k, none, none, none, none, none, none, none, none, none] rfl (ts_setG (QQ := QL _ PyData.bool) (eγ := encQ) (t_seq (t_cons (t_2 (t_get rfl) (t_2 (t_get rfl) t_c f_sub) (f_idxL (d := 0) hb21.1)) (t_cons (t_2 (t_get rfl) (t_get rfl) (f_idxL (d := 0) hb21.2.1)) t_nil)) (T_law_middle _ _ hb21.2.2.1)) hb21.2.2.2 (fun middle hb23 =>
  (ts_p [vv (encL PyData.int) script, vv (enc2 (encL (enc2 PyData.int PyData.int)) PyData.int) line, vv (encL (enc2 encQ PyData.int)) loads, vv (encL PyData.int) draws, vv encQ tension, none, none, vv (encL encQ) marks22, none, none, none, vv (encL encQ) towers, vv PyData.int k, vv encQ middle, none, none, none, none, none, none, none, none] rfl (ts_setG (QQ := QL _ PyData.bool) (eγ := encQ) (t_seq (t_cons (t_get rfl) (t_cons (t_get rfl) (t_cons (t_get rfl) (t_cons (t_2 (t_get rfl) (t_2 (t_get rfl) t_c f_sub) (f_idxL (d := 0) hb21.1)) (t_cons (t_get rfl) t_nil))))) (T_law_slope_between _ _ _ _ _ hb23.1)) hb23.2 (fun near hb24 =>
  (ts_p [vv (encL PyData.int) script, vv (enc2 (encL (enc2 PyData.int PyData.int)) PyData.int) line, vv (encL (enc2 encQ PyData.int)) loads, vv (encL PyData.int) draws, vv encQ tension, none, none, vv (encL encQ) marks22, none, none, none, vv (encL encQ) towers, vv PyData.int k, vv encQ middle, vv encQ near, none, none, none, none, none, none, none] rfl (ts_if (QQ := QL _ PyData.bool) (t_B (t_2 (t_get rfl) (t_seq (t_cons (t_get rfl) (t_cons (t_get rfl) (t_cons (t_get rfl) (t_cons (t_get rfl) (t_cons (t_2 (t_get rfl) (t_get rfl) (f_idxL (d := 0) hb21.2.1)) t_nil))))) (T_law_slope_between _ _ _ _ _ hb24.1)) (f_ne eqe_Q))) (fun hc25 => (ts_retL t_c))
  (fun hc25 => (ts_nx (ts_p [vv (encL PyData.int) script, vv (enc2 (encL (enc2 PyData.int PyData.int)) PyData.int) line, vv (encL (enc2 encQ PyData.int)) loads, vv (encL PyData.int) draws, vv encQ tension, none, none, vv (encL encQ) marks22, none, none, none, vv (encL encQ) towers, vv PyData.int k, vv encQ middle, vv encQ near, none, none, none, none, none, none, none] rfl (ts_end (ts_if (QQ := QL _ PyData.bool) (t_andB (t_B (t_2 (t_2 (t_get rfl) t_c f_add) (t_call (t_cons (t_get rfl) t_nil) f_lenL) f_lt)) fun hc26 => (t_B (t_2 (t_2 (t_get rfl) (t_get rfl) (f_idxL (d := 0) hb21.2.1)) (t_get rfl) (f_notin eqe_Q)))) (fun hc27 => (ts_as (ts_setG (QQ := QL _ PyData.bool) (eγ := encQ) (t_seq (t_cons (t_get rfl) (t_cons (t_get rfl) (t_cons (t_get rfl) (t_cons (t_2 (t_get rfl) (t_get rfl) (f_idxL (d := 0) hb21.2.1)) (t_cons (t_seq (t_cons (t_2 (t_get rfl) (t_get rfl) (f_idxL (d := 0) hb21.2.1)) (t_cons (t_2 (t_get rfl) (t_2 (t_get rfl) t_c f_add) (f_idxL (d := 0) ((hb24.2 hc25) hc27).1)) t_nil)) (T_law_middle _ _ ((hb24.2 hc25) hc27).2.1)) t_nil))))) (T_law_slope_between _ _ _ _ _ ((hb24.2 hc25) hc27).2.2.1)) ((hb24.2 hc25) hc27).2.2.2 (fun far hb28 =>
  (ts_p [vv (encL PyData.int) script, vv (enc2 (encL (enc2 PyData.int PyData.int)) PyData.int) line, vv (encL (enc2 encQ PyData.int)) loads, vv (encL PyData.int) draws, vv encQ tension, none, none, vv (encL encQ) marks22, none, none, none, vv (encL encQ) towers, vv PyData.int k, vv encQ middle, vv encQ near, vv encQ far, none, none, none, none, none, none] rfl (ts_as (ts_setG (QQ := QL _ PyData.bool) (eγ := PyData.int) (t_call (t_cons (t_L (t_lc (e := (enc2 encQ PyData.int)) (xs := loads) (e' := PyData.int) (t_items (t_get rfl) f_items) hb28.1 (fun load2 => tg_n) (fun load2 hx29 => (tm_p [vv (encL PyData.int) script, vv (enc2 (encL (enc2 PyData.int PyData.int)) PyData.int) line, vv (encL (enc2 encQ PyData.int)) loads, vv (encL PyData.int) draws, vv encQ tension, none, none, vv (encL encQ) marks22, vv (enc2 encQ PyData.int) load2, none, none, vv (encL encQ) towers, vv PyData.int k, vv encQ middle, vv encQ near, vv encQ far, none, none, none, none, none, none] rfl (t_B (t_2 (t_2 (t_get rfl) t_c (f_i0 _ _)) (t_2 (t_get rfl) (t_get rfl) (f_idxL (d := 0) hb21.2.1)) (f_eq eqe_Q))))) (fun load2 hx29 hc30 => (tm_p [vv (encL PyData.int) script, vv (enc2 (encL (enc2 PyData.int PyData.int)) PyData.int) line, vv (encL (enc2 encQ PyData.int)) loads, vv (encL PyData.int) draws, vv encQ tension, none, none, vv (encL encQ) marks22, vv (enc2 encQ PyData.int) load2, none, none, vv (encL encQ) towers, vv PyData.int k, vv encQ middle, vv encQ near, vv encQ far, none, none, none, none, none, none] rfl (t_2 (t_get rfl) t_c (f_i1 _ _ _)))))) t_nil) f_sum) hb28.2 (fun weight hb31 =>
  (ts_p [vv (encL PyData.int) script, vv (enc2 (encL (enc2 PyData.int PyData.int)) PyData.int) line, vv (encL (enc2 encQ PyData.int)) loads, vv (encL PyData.int) draws, vv encQ tension, none, none, vv (encL encQ) marks22, none, none, none, vv (encL encQ) towers, vv PyData.int k, vv encQ middle, vv encQ near, vv encQ far, vv PyData.int weight, none, none, none, none, none] rfl (ts_if (QQ := QL _ PyData.bool) (t_B (t_2 (t_seq (t_cons (t_get rfl) (t_cons (t_get rfl) t_nil)) (T_law_minus _ _ hb31.1)) (t_seq (t_cons (t_Q1 weight (t_as (enc2 PyData.int PyData.int) (weight, 1) (t_seq (t_cons (t_get rfl) (t_cons t_c t_nil)) (mTup_ok rfl)))) (t_cons (t_get rfl) t_nil)) (T_law_over _ _ hb31.2)) (f_ne eqe_Q))) (fun hc32 => (ts_retL t_c))
  (fun hc32 => (ts_nx (ts_p [vv (encL PyData.int) script, vv (enc2 (encL (enc2 PyData.int PyData.int)) PyData.int) line, vv (encL (enc2 encQ PyData.int)) loads, vv (encL PyData.int) draws, vv encQ tension, none, none, vv (encL encQ) marks22, none, none, none, vv (encL encQ) towers, vv PyData.int k, vv encQ middle, vv encQ near, vv encQ far, vv PyData.int weight, none, none, none, none, none] rfl (ts_finL (.is (.is (.is (.is (.is (.is (.is (.is (.is (.is (.is (.is (.any (.any (.any (.any (.any (.is (.is (.is (.is (.is .nil))))))))))))))))))))))))))))))))))))
  (fun hc27 => (ts_nx (ts_p [vv (encL PyData.int) script, vv (enc2 (encL (enc2 PyData.int PyData.int)) PyData.int) line, vv (encL (enc2 encQ PyData.int)) loads, vv (encL PyData.int) draws, vv encQ tension, none, none, vv (encL encQ) marks22, none, none, none, vv (encL encQ) towers, vv PyData.int k, vv encQ middle, vv encQ near, none, none, none, none, none, none, none] rfl (ts_finL (.is (.is (.is (.is (.is (.is (.is (.is (.is (.is (.is (.is (.any (.any (.any (.any (.any (.is (.is (.is (.is (.is .nil)))))))))))))))))))))))))))))))))))))))) (fun s32 hb33 =>
  (ts_p [vv (encL PyData.int) script, vv (enc2 (encL (enc2 PyData.int PyData.int)) PyData.int) line, vv (encL (enc2 encQ PyData.int)) loads, vv (encL PyData.int) draws, vv encQ tension, none, none, vv (encL encQ) marks22, none, none, none, vv (encL encQ) towers, none, none, none, none, none, none, none, none, none, none] rfl (ts_setO (t_coM0 (t_dsp t_nil (ln_r rfl))) (ts_p [vv (encL PyData.int) script, vv (enc2 (encL (enc2 PyData.int PyData.int)) PyData.int) line, vv (encL (enc2 encQ PyData.int)) loads, vv (encL PyData.int) draws, vv encQ tension, none, none, vv (encL encQ) marks22, none, none, none, vv (encL encQ) towers, none, none, none, none, none, vo (enc2 encQ PyData.int) [], none, none, none, none] rfl (ts_forG (QQ := QF PyData.bool) (e := (enc2 encQ PyData.int)) (xs := loads) (eτ := eE) (F := (fun (split : (List (Rat × Int))) (at_weight : (Rat × Int)) =>
  (if (decide (1 < at_weight.2)) = true then (bnd (split ++ ([(at_weight.1, 1), (at_weight.1, (at_weight.2 - 1))] : List (Rat × Int))) fun (split2 : (List (Rat × Int))) =>
  split2)
  else (split ++ [(at_weight.1, at_weight.2)])))) (S := (fun (split : (List (Rat × Int))) (at_weight : (Rat × Int)) => ((decide (1 < at_weight.2)) = true → split.length + ([(at_weight.1, 1), (at_weight.1, (at_weight.2 - 1))] : List (Rat × Int)).length ≤ sizeLine) ∧ ((decide (1 < at_weight.2)) = false → split.length < sizeLine))) (E := fun (split : (List (Rat × Int))) => [vv (encL PyData.int) script, vv (enc2 (encL (enc2 PyData.int PyData.int)) PyData.int) line, vv (encL (enc2 encQ PyData.int)) loads, vv (encL PyData.int) draws, vv encQ tension, none, none, vv (encL encQ) marks22, none, none, none, vv (encL encQ) towers, none, none, none, none, none, vo (enc2 encQ PyData.int) split, none, none, none, none]) (.is (.is (.is (.is (.is (.is (.is (.is (.is (.is (.is (.is (.is (.is (.is (.is (.any (.is (.any (.is (.is (.is .nil)))))))))))))))))))))) (t_items (t_get rfl) f_items) (hb20.2.2 s32 hb33).1 (fun split at_weight => (tg_t (tg_c tg_n (tg_c tg_n tg_e)) rfl)) (fun split at_weight hx35 hb34 =>
  (ts_p [vv (encL PyData.int) script, vv (enc2 (encL (enc2 PyData.int PyData.int)) PyData.int) line, vv (encL (enc2 encQ PyData.int)) loads, vv (encL PyData.int) draws, vv encQ tension, none, none, vv (encL encQ) marks22, none, none, none, vv (encL encQ) towers, none, none, none, none, vv PyData.int at_weight.2, vo (enc2 encQ PyData.int) split, vv encQ at_weight.1, none, none, none] rfl (ts_end (ts_if (QQ := fun z => QL _ eE (Stp.nx z)) (t_B (t_2 (t_get rfl) t_c f_gt)) (fun hc36 => (ts_fz (ts_p [vv (encL PyData.int) script, vv (enc2 (encL (enc2 PyData.int PyData.int)) PyData.int) line, vv (encL (enc2 encQ PyData.int)) loads, vv (encL PyData.int) draws, vv encQ tension, none, none, vv (encL encQ) marks22, none, none, none, vv (encL encQ) towers, none, none, none, none, vv PyData.int at_weight.2, vv (encL (enc2 encQ PyData.int)) split, vv encQ at_weight.1, none, none, none] rfl (ts_setOG (QQ := fun z => QL _ eE (Stp.nx z)) (eγ := (enc2 encQ PyData.int)) (t_cat (e := (enc2 encQ PyData.int)) (t_get rfl) (t_as (encL (enc2 encQ PyData.int)) ([(at_weight.1, 1), (at_weight.1, (at_weight.2 - 1))] : List (Rat × Int)) (t_seq (t_cons (t_as (enc2 encQ PyData.int) (at_weight.1, 1) (t_seq (t_cons (t_get rfl) (t_cons t_c t_nil)) (mTup_ok rfl))) (t_cons (t_as (enc2 encQ PyData.int) (at_weight.1, (at_weight.2 - 1)) (t_seq (t_cons (t_get rfl) (t_cons (t_2 (t_get rfl) t_c f_sub) t_nil)) (mTup_ok rfl))) t_nil)) (mLst_ok rfl))) (hb34.1 hc36)) (show bnd _ (fun _ => True) from trivial) (fun split2 hb37 =>
  (ts_p [vv (encL PyData.int) script, vv (enc2 (encL (enc2 PyData.int PyData.int)) PyData.int) line, vv (encL (enc2 encQ PyData.int)) loads, vv (encL PyData.int) draws, vv encQ tension, none, none, vv (encL encQ) marks22, none, none, none, vv (encL encQ) towers, none, none, none, none, vv PyData.int at_weight.2, vo (enc2 encQ PyData.int) split2, vv encQ at_weight.1, none, none, none] rfl (ts_finL (.is (.is (.is (.is (.is (.is (.is (.is (.is (.is (.is (.is (.is (.is (.is (.is (.any (.is (.any (.is (.is (.is .nil)))))))))))))))))))))))))))))
  (fun hc36 => (ts_app (e := (enc2 encQ PyData.int)) rfl (t_as (enc2 encQ PyData.int) (at_weight.1, at_weight.2) (t_seq (t_cons (t_get rfl) (t_cons (t_get rfl) t_nil)) (mTup_ok rfl))) (hb34.2 hc36) (ts_p [vv (encL PyData.int) script, vv (enc2 (encL (enc2 PyData.int PyData.int)) PyData.int) line, vv (encL (enc2 encQ PyData.int)) loads, vv (encL PyData.int) draws, vv encQ tension, none, none, vv (encL encQ) marks22, none, none, none, vv (encL encQ) towers, none, none, none, none, vv PyData.int at_weight.2, vo (enc2 encQ PyData.int) (split ++ [(at_weight.1, at_weight.2)]), vv encQ at_weight.1, none, none, none] rfl (ts_finL (.is (.is (.is (.is (.is (.is (.is (.is (.is (.is (.is (.is (.is (.is (.is (.is (.any (.is (.any (.is (.is (.is .nil)))))))))))))))))))))))))))))) (hb20.2.2 s32 hb33).2 (fun split3 hb38 =>
  (ts_p [vv (encL PyData.int) script, vv (enc2 (encL (enc2 PyData.int PyData.int)) PyData.int) line, vv (encL (enc2 encQ PyData.int)) loads, vv (encL PyData.int) draws, vv encQ tension, none, none, vv (encL encQ) marks22, none, none, none, vv (encL encQ) towers, none, none, none, none, none, vo (enc2 encQ PyData.int) split3, none, none, none, none] rfl (ts_setG (QQ := QF PyData.bool) (eγ := encQ) (t_seq (t_cons (t_get rfl) (t_cons (t_2 (t_get rfl) t_c (f_idxK (d := 0) 2 rfl hb38.1)) (t_cons (t_2 (t_get rfl) t_c (f_idxK (d := 0) 3 rfl hb38.2.1)) t_nil))) (T_law_place _ _ _ hb38.2.2.1)) hb38.2.2.2 (fun place hb39 =>
  (ts_p [vv (encL PyData.int) script, vv (enc2 (encL (enc2 PyData.int PyData.int)) PyData.int) line, vv (encL (enc2 encQ PyData.int)) loads, vv (encL PyData.int) draws, vv encQ tension, none, none, vv (encL encQ) marks22, none, none, none, vv (encL encQ) towers, none, none, none, none, none, vo (enc2 encQ PyData.int) split3, none, vv encQ place, none, none] rfl (ts_fz (ts_p [vv (encL PyData.int) script, vv (enc2 (encL (enc2 PyData.int PyData.int)) PyData.int) line, vv (encL (enc2 encQ PyData.int)) loads, vv (encL PyData.int) draws, vv encQ tension, none, none, vv (encL encQ) marks22, none, none, none, vv (encL encQ) towers, none, none, none, none, none, vv (encL (enc2 encQ PyData.int)) split3, none, vv encQ place, none, none] rfl (ts_if (QQ := QF PyData.bool) (t_orB (t_B (t_2 (t_seq (t_cons (t_get rfl) (t_cons (t_get rfl) (t_cons (t_get rfl) t_nil))) (T_moment _ _ _ hb39.1)) (t_seq (t_cons (t_get rfl) (t_cons (t_get rfl) (t_cons (t_get rfl) t_nil))) (T_moment _ _ _ hb39.2.1)) (f_ne eqe_Q))) fun hc40 => (t_B (t_2 (t_seq (t_cons (t_get rfl) (t_cons (t_get rfl) (t_cons (t_get rfl) (t_cons (t_get rfl) t_nil)))) (T_height _ _ _ _ (hb39.2.2.1 hc40).1)) (t_seq (t_cons (t_get rfl) (t_cons (t_get rfl) (t_cons (t_get rfl) (t_cons (t_get rfl) t_nil)))) (T_height _ _ _ _ (hb39.2.2.1 hc40).2)) (f_ne eqe_Q)))) (fun hc41 => (ts_retF t_c))
  (fun hc41 => (ts_nx (ts_p [vv (encL PyData.int) script, vv (enc2 (encL (enc2 PyData.int PyData.int)) PyData.int) line, vv (encL (enc2 encQ PyData.int)) loads, vv (encL PyData.int) draws, vv encQ tension, none, none, vv (encL encQ) marks22, none, none, none, vv (encL encQ) towers, none, none, none, none, none, vv (encL (enc2 encQ PyData.int)) split3, none, vv encQ place, none, none] rfl (ts_setG (QQ := QF PyData.bool) (eγ := encQ) (t_Q1 0 (t_as (enc2 PyData.int PyData.int) (0, 1) (t_seq (t_cons t_c (t_cons t_c t_nil)) (mTup_ok rfl)))) (hb39.2.2.2 hc41) (fun alone hb42 =>
  (ts_p [vv (encL PyData.int) script, vv (enc2 (encL (enc2 PyData.int PyData.int)) PyData.int) line, vv (encL (enc2 encQ PyData.int)) loads, vv (encL PyData.int) draws, vv encQ tension, none, none, vv (encL encQ) marks22, none, none, none, vv (encL encQ) towers, none, none, none, none, none, vv (encL (enc2 encQ PyData.int)) split3, none, vv encQ place, vv encQ alone, none] rfl (ts_forG (QQ := QF PyData.bool) (e := (enc2 encQ PyData.int)) (xs := loads) (eτ := eE) (F := (fun (alone2 : Rat) (load3 : (Rat × Int)) =>
  (bnd (alone2 + (F_moment (line.1, 0) ([load3] : List (Rat × Int)) place)) fun (alone3 : Rat) =>
  alone3))) (S := (fun (alone2 : Rat) (load3 : (Rat × Int)) => S_moment (line.1, 0) ([load3] : List (Rat × Int)) place ∧ Q2 alone2 (F_moment (line.1, 0) ([load3] : List (Rat × Int)) place))) (E := fun (alone2 : Rat) => [vv (encL PyData.int) script, vv (enc2 (encL (enc2 PyData.int PyData.int)) PyData.int) line, vv (encL (enc2 encQ PyData.int)) loads, vv (encL PyData.int) draws, vv encQ tension, none, none, vv (encL encQ) marks22, none, none, none, vv (encL encQ) towers, none, none, none, none, none, vv (encL (enc2 encQ PyData.int)) split3, none, vv encQ place, vv encQ alone2, none]) (.is (.is (.is (.is (.is (.is (.is (.is (.any (.is (.is (.is (.is (.is (.is (.is (.is (.is (.is (.is (.is (.is .nil)))))))))))))))))))))) (t_items (t_get rfl) f_items) hb42.1 (fun alone2 load3 => tg_n) (fun alone2 load3 hx44 hb43 =>
  (ts_p [vv (encL PyData.int) script, vv (enc2 (encL (enc2 PyData.int PyData.int)) PyData.int) line, vv (encL (enc2 encQ PyData.int)) loads, vv (encL PyData.int) draws, vv encQ tension, none, none, vv (encL encQ) marks22, vv (enc2 encQ PyData.int) load3, none, none, vv (encL encQ) towers, none, none, none, none, none, vv (encL (enc2 encQ PyData.int)) split3, none, vv encQ place, vv encQ alone2, none] rfl (ts_end (ts_setG (QQ := fun z => QL _ eE (Stp.nx z)) (eγ := encQ) (t_seq (t_cons (t_get rfl) (t_cons (t_seq (t_cons (t_as (enc2 (encL (enc2 PyData.int PyData.int)) PyData.int) (line.1, 0) (t_seq (t_cons (t_2 (t_get rfl) t_c (f_i0 _ _)) (t_cons t_c t_nil)) (mTup_ok rfl))) (t_cons (t_as (encL (enc2 encQ PyData.int)) ([load3] : List (Rat × Int)) (t_seq (t_cons (t_get rfl) t_nil) (mLst_ok rfl))) (t_cons (t_get rfl) t_nil))) (T_moment _ _ _ hb43.1)) t_nil)) (T_law_plus _ _ hb43.2)) (show bnd _ (fun _ => True) from trivial) (fun alone3 hb45 =>
  (ts_p [vv (encL PyData.int) script, vv (enc2 (encL (enc2 PyData.int PyData.int)) PyData.int) line, vv (encL (enc2 encQ PyData.int)) loads, vv (encL PyData.int) draws, vv encQ tension, none, none, vv (encL encQ) marks22, vv (enc2 encQ PyData.int) load3, none, none, vv (encL encQ) towers, none, none, none, none, none, vv (encL (enc2 encQ PyData.int)) split3, none, vv encQ place, vv encQ alone3, none] rfl (ts_finL (.is (.is (.is (.is (.is (.is (.is (.is (.any (.is (.is (.is (.is (.is (.is (.is (.is (.is (.is (.is (.is (.is .nil))))))))))))))))))))))))))))) hb42.2 (fun alone22 hb46 =>
  (ts_p [vv (encL PyData.int) script, vv (enc2 (encL (enc2 PyData.int PyData.int)) PyData.int) line, vv (encL (enc2 encQ PyData.int)) loads, vv (encL PyData.int) draws, vv encQ tension, none, none, vv (encL encQ) marks22, none, none, none, vv (encL encQ) towers, none, none, none, none, none, vv (encL (enc2 encQ PyData.int)) split3, none, vv encQ place, vv encQ alone22, none] rfl (ts_if (QQ := QF PyData.bool) (t_B (t_2 (t_seq (t_cons (t_get rfl) (t_cons (t_seq (t_cons (t_get rfl) (t_cons (t_as (encL (enc2 encQ PyData.int)) [] (t_as (encL PyData.int) [] (t_seq t_nil (mLst_ok rfl)))) (t_cons (t_get rfl) t_nil))) (T_moment _ _ _ hb46.1)) t_nil)) (T_law_plus _ _ hb46.2.1)) (t_seq (t_cons (t_get rfl) (t_cons (t_get rfl) (t_cons (t_get rfl) t_nil))) (T_moment _ _ _ hb39.2.1)) (f_ne eqe_Q))) (fun hc47 => (ts_retF t_c))
  (fun hc47 => (ts_nx (ts_p [vv (encL PyData.int) script, vv (enc2 (encL (enc2 PyData.int PyData.int)) PyData.int) line, vv (encL (enc2 encQ PyData.int)) loads, vv (encL PyData.int) draws, vv encQ tension, none, none, vv (encL encQ) marks22, none, none, none, vv (encL encQ) towers, none, none, none, none, none, vv (encL (enc2 encQ PyData.int)) split3, none, vv encQ place, vv encQ alone22, none] rfl (ts_fz (ts_p [vv (encL PyData.int) script, vv (enc2 (encL (enc2 PyData.int PyData.int)) PyData.int) line, vv (encL (enc2 encQ PyData.int)) loads, vv (encL PyData.int) draws, vv encQ tension, none, none, vv (encL encQ) marks22, none, none, none, vv (encL encQ) towers, none, none, none, none, none, vv (encL (enc2 encQ PyData.int)) split3, none, vv encQ place, vv encQ alone22, none] rfl (ts_forRU (QQ := QF PyData.bool) (e := PyData.int) (xs := (rngI 0 (towers.length : Int))) (eτ := PyData.bool) (F := (fun (s4 : Unit) (tower : Int) => ((if (!decide ((F_press line split3 tension tower) = (F_press line loads tension tower))) = true then Stp.rt false
  else Stp.nx ()) : Stp (Unit) Bool))) (S := (fun (s4 : Unit) (tower : Int) => S_press line split3 tension tower ∧ S_press line loads tension tower)) (E := fun (s4 : Unit) => [vv (encL PyData.int) script, vv (enc2 (encL (enc2 PyData.int PyData.int)) PyData.int) line, vv (encL (enc2 encQ PyData.int)) loads, vv (encL PyData.int) draws, vv encQ tension, none, none, vv (encL encQ) marks22, none, none, none, vv (encL encQ) towers, none, none, none, none, none, vv (encL (enc2 encQ PyData.int)) split3, none, vv encQ place, vv encQ alone22, none]) (K := fun v => v) (fun _ _ => kF) (.is (.is (.is (.is (.is (.is (.is (.is (.is (.is (.is (.is (.is (.is (.is (.is (.is (.is (.is (.is (.is (.any .nil)))))))))))))))))))))) (t_wk (t_cons (t_call (t_cons (t_get rfl) t_nil) f_lenL) t_nil) (f_rng1 (hb46.2.2 hc47).1)) (hb46.2.2 hc47).2 (fun s4 tower => tg_n) (fun s4 tower hx49 hb48 =>
  (ts_p [vv (encL PyData.int) script, vv (enc2 (encL (enc2 PyData.int PyData.int)) PyData.int) line, vv (encL (enc2 encQ PyData.int)) loads, vv (encL PyData.int) draws, vv encQ tension, none, none, vv (encL encQ) marks22, none, none, none, vv (encL encQ) towers, none, none, none, none, none, vv (encL (enc2 encQ PyData.int)) split3, none, vv encQ place, vv encQ alone22, vv PyData.int tower] rfl (ts_end (ts_if (QQ := QL _ PyData.bool) (t_B (t_2 (t_seq (t_cons (t_get rfl) (t_cons (t_get rfl) (t_cons (t_get rfl) (t_cons (t_get rfl) t_nil)))) (T_press _ _ _ _ hb48.1)) (t_seq (t_cons (t_get rfl) (t_cons (t_get rfl) (t_cons (t_get rfl) (t_cons (t_get rfl) t_nil)))) (T_press _ _ _ _ hb48.2)) (f_ne eqe_Q))) (fun hc50 => (ts_retL t_c))
  (fun hc50 => (ts_nx (ts_p [vv (encL PyData.int) script, vv (enc2 (encL (enc2 PyData.int PyData.int)) PyData.int) line, vv (encL (enc2 encQ PyData.int)) loads, vv (encL PyData.int) draws, vv encQ tension, none, none, vv (encL encQ) marks22, none, none, none, vv (encL encQ) towers, none, none, none, none, none, vv (encL (enc2 encQ PyData.int)) split3, none, vv encQ place, vv encQ alone22, vv PyData.int tower] rfl (ts_finL (.is (.is (.is (.is (.is (.is (.is (.is (.is (.is (.is (.is (.is (.is (.is (.is (.is (.is (.is (.is (.is (.any .nil)))))))))))))))))))))))))))))) (fun s42 hb51 =>
  (ts_p [vv (encL PyData.int) script, vv (enc2 (encL (enc2 PyData.int PyData.int)) PyData.int) line, vv (encL (enc2 encQ PyData.int)) loads, vv (encL PyData.int) draws, vv encQ tension, none, none, vv (encL encQ) marks22, none, none, none, vv (encL encQ) towers, none, none, none, none, none, vv (encL (enc2 encQ PyData.int)) split3, none, vv encQ place, vv encQ alone22, none] rfl (ts_end (ts_retF t_c))))))))))))))))))))))))))))))))))))))))))))))))))))))))))))
end Law
end
section
set_option Elab.async false
set_option linter.all false
set_option maxRecDepth 100000
set_option maxHeartbeats 2000000
set_option autoImplicit false
open PySem PV
namespace Law
theorem numbers_T {cell c m : Int} (c0 : 0 ≤ c) (c1 : c < 100000) (m0 : 0 < m) (m1 : m < 2 ^ 60) : S_law_numbers cell c m ∧ ((F_law_numbers cell c m).length : Int) = c ∧ ∀ x ∈ F_law_numbers cell c m, 0 ≤ x ∧ x < m := by
  show Ok (S_law_numbers cell c m) (F_law_numbers cell c m) fun ds => (ds.length : Int) = c ∧ ∀ x ∈ ds, 0 ≤ x ∧ x < m
  unfold S_law_numbers F_law_numbers
  have sn : ∀ (s : List Int) (k v : Int), (s.length : Int) = k → (∀ x ∈ s, 0 ≤ x ∧ x < m) → 0 ≤ v → v < m → ((s ++ [v]).length : Int) = k + 1 ∧ ∀ x ∈ s ++ [v], 0 ≤ x ∧ x < m := fun s k v h1 h2 v0 v1 => by
    refine ⟨by rw [List.length_append, List.length_singleton]; omega, fun x hx => ?_⟩
    rcases List.mem_append.mp hx with hx | hx
    · exact h2 x hx
    · rw [List.mem_singleton] at hx; omega
  have rm : ∀ v : Int, 0 ≤ v % m ∧ v % m < m := fun v => ⟨Int.emod_nonneg _ (by omega), Int.emod_lt_of_pos _ m0⟩
  refine ok_if (fun _ => ?_) (fun _ => ?_)
  · refine ok_g (r62_s (by omega) (by omega)) (ok_for0 (fun (s : Int × List Int) => (s.2.length : Int) = c ∧ ∀ x ∈ s.2, 0 ≤ x ∧ x < m) (LpS_rng (fun k (s : Int × List Int) => (s.2.length : Int) = k ∧ ∀ x ∈ s.2, 0 ≤ x ∧ x < m) ⟨rfl, fun x hx => nomatch hx⟩ c0 fun k s k0 k1 hs => ?_) fun s hs => hs)
    exact ⟨⟨m0, szl_ _ (by have := hs.1; omega), dvOk_s m0 (by omega)⟩, sn _ _ _ hs.1 hs.2 (rm _).1 (rm _).2⟩
  · refine ok_g (r62_s (by omega) (by omega)) (ok_for0 (fun (s : List Int) => (s.length : Int) = c ∧ ∀ x ∈ s, 0 ≤ x ∧ x < m) (LpS_rng (fun k (s : List Int) => (s.length : Int) = k ∧ ∀ x ∈ s, 0 ≤ x ∧ x < m) ⟨rfl, fun x hx => nomatch hx⟩ c0 fun k s k0 k1 hs => ?_) fun s hs => hs)
    exact ⟨⟨mulOk_r (by omega) (by omega), m0, szl_ _ (by have := hs.1; omega)⟩, sn _ _ _ hs.1 hs.2 (rm _).1 (rm _).2⟩
/-! lines, places, loads that are drawn -/
abbrev Ln := (List (Int × Int)) × Int
def X (l : Ln) (i : Nat) : Int := (l.1.getD i (0, 0)).1
structure LnOk (l : Ln) : Prop where
  n2 : 2 ≤ l.1.length
  n12 : l.1.length ≤ 12
  inc : ∀ i, i + 1 < l.1.length → X l i < X l (i + 1) ∧ X l (i + 1) < X l i + 512
  bx : ∀ t ∈ l.1, t.1.natAbs < 4096 ∧ t.2.natAbs < 4096
  w : 0 ≤ l.2 ∧ l.2 < 8
theorem cell_T (ns : List Int) {k : Int} (h : 0 ≤ k) : S_law_cell ns k := fun c => ⟨h, of_decide_eq_true c⟩
theorem get3i {P : Int → Prop} {a b c : Int} {i : Int} (ha : P a) (hb : P b) (hc : P c) : P (([a, b, c] : List Int).getD (i % 3).toNat 0) := get3P (P := P) (by omega) (by omega) ha hb hc
theorem line_T (ns : List Int) {at_ most : Int} (a0 : 0 ≤ at_) (m2 : 2 ≤ most) (m12 : most ≤ 12) : Ok (S_law_line ns at_ most) (F_law_line ns at_ most) LnOk := by
  unfold S_law_line F_law_line
  obtain ⟨d1, d2, d3⟩ := numbers_T (cell := F_law_cell ns at_) (c := 90) (m := 5040) (by omega) (by omega) (by omega) (by omega)
  refine ok_g (cell_T ns a0) (ok_g d1 (ok_bnd (fun ds => ds.length = 90 ∧ ∀ x ∈ ds, 0 ≤ x ∧ x < 5040) ⟨by omega, d3⟩ fun ds ⟨l, dr⟩ => ?_))
  have p := pk dr
  have p0 := p 0 (by omega)
  have p1 := p 1 (by omega)
  have p2 := p 2 (by omega)
  have p3 := p 3 (by omega)
  have hq0 := Int.emod_nonneg (ds.getD 1 0) (show most - 1 ≠ 0 by omega)
  have hq1 := Int.emod_lt_of_pos (ds.getD 1 0) (show 0 < most - 1 by omega)
  refine ok_g (by omega) (ok_bnd (fun x => -20 ≤ x ∧ x < 30) (by omega) fun x ⟨x0, x1⟩ => ok_g (by omega) (ok_g (by omega) (ok_g (r62_s (by omega) (by omega)) ?_)))
  have w5 : ∀ d : Int, (([0, 0, 1, 2, 7] : List Int).getD (d % 5).toNat 0) ∈ ([0, 0, 1, 2, 7] : List Int) := fun d => gd_mem (by show _ < 5; omega)
  have key := LpS_rng (S := fun (s : Int × (List (Int × Int))) (k : Int) => ixOk ds.length (4 + (2 * k)) ∧ 2 < ds.length ∧ 0 < (([9, 60, 400] : List Int).getD (((ds.getD 2 0) % 3)).toNat 0) ∧ s.2.length < sizeLine ∧ ixOk ds.length (5 + (2 * k)) ∧ 0 < (([4, 30, 300] : List Int).getD ((((ds.getD 2 0) / 3) % 3)).toNat 0)) (F := fun (s : Int × (List (Int × Int))) (k : Int) =>
  (bnd ((s.1 + 1) + ((ds.getD ((5 + (2 * k))).toNat 0) % (([4, 30, 300] : List Int).getD ((((ds.getD 2 0) / 3) % 3)).toNat 0))) fun (x2 : Int) =>
  (x2, (s.2 ++ [(s.1, (((ds.getD ((4 + (2 * k))).toNat 0) % (([9, 60, 400] : List Int).getD (((ds.getD 2 0) % 3)).toNat 0)) - ((ds.getD 2 0) % 40)))])))) (n := 2 + ds.getD 1 0 % (most - 1)) (s0 := (x, [])) (fun k s => (s.2.length : Int) = k ∧ -20 ≤ s.1 ∧ s.1 < 30 + 301 * k ∧ (∀ t ∈ s.2, -20 ≤ t.1 ∧ t.1 < s.1 ∧ t.2.natAbs < 4096) ∧ (∀ i, i + 1 < s.2.length → (s.2.getD i (0, 0)).1 < (s.2.getD (i + 1) (0, 0)).1 ∧ (s.2.getD (i + 1) (0, 0)).1 < (s.2.getD i (0, 0)).1 + 512) ∧ (0 < s.2.length → s.1 < (s.2.getD (s.2.length - 1) (0, 0)).1 + 512)) ⟨rfl, x0, by show x < _; omega, (fun t ht => nomatch ht), (fun i hi => absurd hi (Nat.not_lt_zero _)), fun h => absurd h (Nat.lt_irrefl 0)⟩ (by omega) (by
    rintro k ⟨y, ts⟩ k0 k1 ⟨h1, h2, h3, h4, h5, h6⟩
    have h1' : (ts.length : Int) = k := h1
    have h2' : -20 ≤ y := h2
    have h3' : y < 30 + 301 * k := h3
    obtain ⟨g, hg⟩ : ∃ g, g = (([4, 30, 300] : List Int).getD ((((ds.getD 2 0) / 3) % 3)).toNat 0) := ⟨_, rfl⟩
    obtain ⟨g', hg'⟩ : ∃ g, g = (([9, 60, 400] : List Int).getD (((ds.getD 2 0) % 3)).toNat 0) := ⟨_, rfl⟩
    have gb : 0 < g ∧ g ≤ 300 := by rw [hg]; exact get3i (P := fun g => 0 < g ∧ g ≤ 300) (by decide) (by decide) (by decide)
    have gb' : 0 < g' ∧ g' ≤ 400 := by rw [hg']; exact get3i (P := fun g => 0 < g ∧ g ≤ 400) (by decide) (by decide) (by decide)
    have e1 := Int.emod_nonneg (ds.getD (5 + 2 * k).toNat 0) (show g ≠ 0 by omega)
    have e2 := Int.emod_lt_of_pos (ds.getD (5 + 2 * k).toNat 0) gb.1
    have e3 := Int.emod_nonneg (ds.getD (4 + 2 * k).toNat 0) (show g' ≠ 0 by omega)
    have e4 := Int.emod_lt_of_pos (ds.getD (4 + 2 * k).toNat 0) gb'.1
    rw [← hg, ← hg']
    refine ⟨⟨⟨by omega, by omega⟩, by omega, gb'.1, szl_ _ (by show ts.length ≤ _; omega), ⟨by omega, by omega⟩, gb.1⟩, ?_⟩
    obtain ⟨y', hy'⟩ : ∃ y', y' = y + 1 + ds.getD (5 + 2 * k).toNat 0 % g := ⟨_, rfl⟩
    obtain ⟨z', hz'⟩ : ∃ z', z' = ds.getD (4 + 2 * k).toNat 0 % g' - ds.getD 2 0 % 40 := ⟨_, rfl⟩
    suffices goal : ((ts ++ [(y, z')]).length : Int) = k + 1 ∧ -20 ≤ y' ∧ y' < 30 + 301 * (k + 1) ∧ (∀ t ∈ ts ++ [(y, z')], -20 ≤ t.1 ∧ t.1 < y' ∧ t.2.natAbs < 4096) ∧ (∀ i, i + 1 < (ts ++ [(y, z')]).length → ((ts ++ [(y, z')]).getD i (0, 0)).1 < ((ts ++ [(y, z')]).getD (i + 1) (0, 0)).1 ∧ ((ts ++ [(y, z')]).getD (i + 1) (0, 0)).1 < ((ts ++ [(y, z')]).getD i (0, 0)).1 + 512) ∧ (0 < (ts ++ [(y, z')]).length → y' < ((ts ++ [(y, z')]).getD ((ts ++ [(y, z')]).length - 1) (0, 0)).1 + 512) by
      rw [hy', hz'] at goal; exact goal
    refine ⟨by rw [List.length_append, List.length_singleton]; omega, by omega, by omega, fun t ht => ?_, fun i hi => ?_, fun _ => ?_⟩
    · rcases List.mem_append.mp ht with ht | ht
      · have := h4 t ht
        have q : t.1 < y := this.2.1
        exact ⟨this.1, by omega, this.2.2⟩
      · rw [List.mem_singleton] at ht; subst ht
        exact ⟨h2, by show y < y'; omega, by show z'.natAbs < 4096; omega⟩
    · rw [List.length_append, List.length_singleton] at hi
      by_cases c : i + 1 < ts.length
      · rw [gd_app (by omega), gd_app c]; exact h5 i c
      · rw [gd_app (show i < ts.length by omega), gd_snoc (show i + 1 = ts.length by omega)]
        have hm := h4 _ (gd_mem (l := ts) (d := (0, 0)) (show i < ts.length by omega))
        have hl := h6 (show 0 < ts.length by omega)
        have e : ts.length - 1 = i := by omega
        have hl' : y < (ts.getD (ts.length - 1) (0, 0)).1 + 512 := hl
        rw [e] at hl'
        exact ⟨hm.2.1, hl'⟩
    · rw [show (ts ++ [(y, z')]).length - 1 = ts.length from by rw [List.length_append, List.length_singleton]; omega, gd_snoc rfl]
      show y' < y + 512
      omega)
  refine ok_g key.1 (ok_bnd (fun (s : Int × (List (Int × Int))) => (s.2.length : Int) = 2 + ds.getD 1 0 % (most - 1) ∧ (∀ t ∈ s.2, t.1.natAbs < 4096 ∧ t.2.natAbs < 4096) ∧ (∀ i, i + 1 < s.2.length → (s.2.getD i (0, 0)).1 < (s.2.getD (i + 1) (0, 0)).1 ∧ (s.2.getD (i + 1) (0, 0)).1 < (s.2.getD i (0, 0)).1 + 512)) ⟨key.2.1, fun t ht => ⟨by have := key.2.2.2.2.1 t ht; have := key.2.2.2.1; omega, (key.2.2.2.2.1 t ht).2.2⟩, key.2.2.2.2.2.1⟩ fun s ⟨s1, s2, s3⟩ => ok_end (by omega) ⟨by show 2 ≤ s.2.length; omega, by show s.2.length ≤ 12; omega, s3, s2, ?_⟩)
  have := w5 (ds.getD 3 0)
  have all : ∀ x ∈ ([0, 0, 1, 2, 7] : List Int), 0 ≤ x ∧ x < 8 := by decide
  exact all _ this
theorem LnOk.lt {l : Ln} (h : LnOk l) : ∀ {i j : Nat}, i < j → j < l.1.length → X l i < X l j
  | i, 0, hij, _ => absurd hij (Nat.not_lt_zero _)
  | i, j + 1, hij, hj => by
    have h1 := (h.inc j hj).1
    by_cases c : i = j
    · subst c; exact h1
    · have := h.lt (i := i) (j := j) (by omega) (by omega); omega
theorem LnOk.xb {l : Ln} (h : LnOk l) {i : Nat} (hi : i < l.1.length) : (X l i).natAbs < 2 ^ 12 := (h.bx _ (gd_mem hi)).1
theorem ratI_le {a b : Int} : ((a : Int) : Rat) ≤ ((b : Int) : Rat) ↔ a ≤ b := Rat.intCast_le_intCast
theorem ratI_lt {a b : Int} : ((a : Int) : Rat) < ((b : Int) : Rat) ↔ a < b := Rat.intCast_lt_intCast
/-- a place by its bottom -/
theorem place_of {low wide bt r : Int} (b0 : 0 < bt) (r0 : 0 ≤ r) (r1 : r ≤ wide * bt) : (low : Rat) ≤ (((low * bt + r : Int) : Rat) / ((bt : Int) : Rat)) ∧ (((low * bt + r : Int) : Rat) / ((bt : Int) : Rat)) ≤ ((low + wide : Int) : Rat) ∧ (r < wide * bt → (((low * bt + r : Int) : Rat) / ((bt : Int) : Rat)) < ((low + wide : Int) : Rat)) ∧ (((low * bt + r : Int) : Rat) / ((bt : Int) : Rat)) * ((bt.toNat : Nat) : Rat) = ((low * bt + r : Int) : Rat) := by
  have hb : (0 : Rat) < (bt : Rat) := Rat.intCast_pos.mpr b0
  have hb0 : (bt : Rat) ≠ 0 := by grind
  have e : (((low * bt + r : Int) : Rat) / ((bt : Int) : Rat)) * (bt : Rat) = (low : Rat) * (bt : Rat) + (r : Rat) := by
    rw [Rat.intCast_add, Rat.intCast_mul]; grind
  have r0' : (0 : Rat) ≤ (r : Rat) := Rat.intCast_nonneg.mpr r0
  have r1' : (r : Rat) ≤ (wide : Rat) * (bt : Rat) := by rw [← Rat.intCast_mul]; exact ratI_le.mpr r1
  have eb : ((bt.toNat : Nat) : Rat) = (bt : Rat) := by
    have : (((bt.toNat : Nat) : Int) : Rat) = (bt : Rat) := by rw [show ((bt.toNat : Nat) : Int) = bt from by omega]
    exact this
  rw [eb, Rat.intCast_add low wide]
  refine ⟨?_, ?_, fun r2 => ?_, by rw [e, Rat.intCast_add, Rat.intCast_mul]⟩
  · by_cases c : (low : Rat) ≤ (((low * bt + r : Int) : Rat) / ((bt : Int) : Rat))
    · exact c
    · have := Rat.mul_pos (show 0 < (low : Rat) - (((low * bt + r : Int) : Rat) / ((bt : Int) : Rat)) by grind) hb
      grind
  · by_cases c : (((low * bt + r : Int) : Rat) / ((bt : Int) : Rat)) ≤ (low : Rat) + (wide : Rat)
    · exact c
    · have := Rat.mul_pos (show 0 < (((low * bt + r : Int) : Rat) / ((bt : Int) : Rat)) - ((low : Rat) + (wide : Rat)) by grind) hb
      grind
  · have r2' : (r : Rat) < (wide : Rat) * (bt : Rat) := by rw [← Rat.intCast_mul]; exact ratI_lt.mpr r2
    by_cases c : (((low * bt + r : Int) : Rat) / ((bt : Int) : Rat)) < (low : Rat) + (wide : Rat)
    · exact c
    · have := Rat.mul_nonneg (show 0 ≤ (((low * bt + r : Int) : Rat) / ((bt : Int) : Rat)) - ((low : Rat) + (wide : Rat)) by grind) (show 0 ≤ (bt : Rat) by grind)
      grind
theorem pw12 : pw 12 = ((4096 : Int) : Rat) := rfl
theorem pwI (k : Nat) : pw k = (((2 ^ k : Nat) : Int) : Rat) := rfl
structure PlOk (l : Ln) (D : Nat) (q : Rat) : Prop where
  g : G D 12 q
  lo : ((X l 0 : Int) : Rat) ≤ q
  hi : q ≤ ((X l (l.1.length - 1) : Int) : Rat)
theorem plOk_int {l : Ln} (h : LnOk l) {i : Nat} (hi : i < l.1.length) (D : Nat) : PlOk l D ((X l i : Int) : Rat) := by
  refine ⟨((G.int (h.xb hi)).up D).cast (Nat.one_mul D), ratI_le.mpr ?_, ratI_le.mpr ?_⟩
  · by_cases c : i = 0
    · subst c; exact Int.le_refl _
    · exact Int.le_of_lt (h.lt (i := 0) (j := i) (by omega) hi)
  · by_cases c : i = l.1.length - 1
    · subst c; exact Int.le_refl _
    · exact Int.le_of_lt (h.lt (i := i) (j := l.1.length - 1) (by omega) (by omega))
theorem PlOk.g12 {l : Ln} (h : LnOk l) {q : Rat} (lo : ((X l 0 : Int) : Rat) ≤ q) (hi : q ≤ ((X l (l.1.length - 1) : Int) : Rat)) : -pw 12 < q ∧ q < pw 12 := by
  have a := (int_lt (h.xb (i := 0) (by have := h.n2; omega))).1
  have b := (int_lt (h.xb (i := l.1.length - 1) (by have := h.n2; omega))).2
  constructor <;> grind
theorem plOk_of {l : Ln} (h : LnOk l) {bt r : Int} {D : Nat} (b0 : 0 < bt) (hD : bt.toNat ∣ D) (r0 : 0 ≤ r) (r1 : r ≤ (X l (l.1.length - 1) - X l 0) * bt) : PlOk l D (((X l 0 * bt + r : Int) : Rat) / ((bt : Int) : Rat)) := by
  obtain ⟨h1, h2, _, h3⟩ := place_of (low := X l 0) b0 r0 r1
  rw [show X l 0 + (X l (l.1.length - 1) - X l 0) = X l (l.1.length - 1) from by omega] at h2
  have hb := PlOk.g12 h h1 h2
  exact ⟨G.dvd ⟨⟨_, h3⟩, hb.1, hb.2⟩ hD, h1, h2⟩
theorem place_T {l : Ln} (h : LnOk l) {one other : Int} (o0 : 0 ≤ one) (p0 : 0 ≤ other) : Ok (S_law_place l one other) (F_law_place l one other) (PlOk l 60) := by
  unfold S_law_place F_law_place
  have n2 := h.n2
  have n12 := h.n12
  have x0 := h.xb (i := 0) (by omega)
  have xn := h.xb (i := l.1.length - 1) (by omega)
  have hlt := h.lt (i := 0) (j := l.1.length - 1) (by omega) (by omega)
  refine ok_g (by omega) (ok_bnd (fun a => a = X l 0) rfl fun low hlow => ok_g ⟨by omega, by omega⟩ (ok_bnd (fun a => a = X l (l.1.length - 1) - X l 0) (by rw [hlow, show ((l.1.length : Int) - 1).toNat = l.1.length - 1 from by omega]; rfl) fun wide hw => ok_if (fun c => ?_) (fun c => ?_)))
  · have c1 := Int.emod_nonneg (one / 7) (show (l.1.length : Int) ≠ 0 by omega)
    have c2 := Int.emod_lt_of_pos (one / 7) (show (0 : Int) < (l.1.length : Int) by omega)
    exact ok_end ⟨by omega, ⟨c1, c2⟩⟩ (plOk_int h (i := (one / 7 % (l.1.length : Int)).toNat) (by omega) 60)
  · obtain ⟨bt, hbt, b0, b1⟩ : ∃ bt, bt = 1 + one / 7 % 6 ∧ 1 ≤ bt ∧ bt ≤ 6 := ⟨_, rfl, by omega, by omega⟩
    refine ok_bnd (fun b => b = bt) hbt.symm fun b hb => ?_
    subst hb
    have hbw : 0 ≤ wide * b := Int.mul_nonneg (by omega) (by omega)
    have r0 := Int.emod_nonneg other (show wide * b + 1 ≠ 0 by omega)
    have r1 := Int.emod_lt_of_pos other (show 0 < wide * b + 1 by omega)
    generalize hr : other % (wide * b + 1) = r at r0 r1
    have hD : b.toNat ∣ 60 := by
      have : b = 1 ∨ b = 2 ∨ b = 3 ∨ b = 4 ∨ b = 5 ∨ b = 6 := by omega
      rcases this with e | e | e | e | e | e <;> rw [e] <;> decide
    have szt : (low * b + r).natAbs < 2 ^ 400 := by
      have : b = 1 ∨ b = 2 ∨ b = 3 ∨ b = 4 ∨ b = 5 ∨ b = 6 := by omega
      have : (low * b + r).natAbs < 2 ^ 20 := by
        rcases this with e | e | e | e | e | e <;> rw [e] at r1 ⊢ <;> omega
      exact Nat.lt_trans this (by decide)
    refine ok_end ⟨mulOk_r (by omega) (by omega), mulOk_r (by omega) (by omega), by omega, by omega, szt, Nat.lt_of_le_of_lt (show b.natAbs ≤ 6 by omega) (by decide)⟩ ?_
    rw [hlow]
    exact plOk_of h (by omega) hD r0 (by rw [← hw]; omega)
structure LdsOk (l : Ln) (ls : List (Rat × Int)) : Prop where
  n : ls.length ≤ 16
  p : ∀ d ∈ ls, PlOk l 60 d.1
  w : ∀ d ∈ ls, 1 ≤ d.2 ∧ d.2 < 8192
  s : List.Pairwise (fun a b : Rat × Int => a.1 ≤ b.1) ls
theorem PlOk.sz {l : Ln} {D : Nat} {q : Rat} (h : PlOk l D q) (hD : 0 < D) (hd : D < 2 ^ 64) : Sz 200 q := h.g.sz hD hd (by decide)
/-- where one is put in -/
theorem spot_split {q : Rat} : ∀ {xs : List (Rat × Int)}, List.Pairwise (fun a b : Rat × Int => a.1 ≤ b.1) xs → (∀ x ∈ xs.take (xs.filter fun o => !decide (q < o.1)).length, x.1 ≤ q) ∧ ∀ x ∈ xs.drop (xs.filter fun o => !decide (q < o.1)).length, q < x.1
  | [], _ => ⟨fun x hx => by simp at hx, fun x hx => by simp at hx⟩
  | y :: r, hp => by
    rw [List.pairwise_cons] at hp
    by_cases c : q < y.1
    · have e : (y :: r).filter (fun o => !decide (q < o.1)) = [] := List.filter_eq_nil_iff.mpr fun x hx => by
        have : q < x.1 := by
          rcases List.mem_cons.mp hx with rfl | hx
          · exact c
          · have := hp.1 x hx; grind
        simp [this]
      rw [e]
      refine ⟨fun x hx => by simp at hx, fun x hx => ?_⟩
      rcases List.mem_cons.mp hx with rfl | hx
      · exact c
      · have := hp.1 x hx; grind
    · obtain ⟨i1, i2⟩ := spot_split (q := q) hp.2
      rw [List.filter_cons_of_pos (by simp [c]), List.length_cons]
      refine ⟨fun x hx => ?_, fun x hx => i2 x hx⟩
      rw [List.take_succ_cons] at hx
      rcases List.mem_cons.mp hx with rfl | hx
      · grind
      · exact i1 x hx
theorem loads_T (ns : List Int) {at_ most : Int} {l : Ln} (h : LnOk l) (a0 : 0 ≤ at_) (m0 : 0 ≤ most) (m16 : most ≤ 16) : Ok (S_law_loads ns at_ l most) (F_law_loads ns at_ l most) fun ls => LdsOk l ls ∧ (ls.length : Int) ≤ most := by
  unfold S_law_loads F_law_loads
  obtain ⟨d1, d2, d3⟩ := numbers_T (cell := F_law_cell ns at_) (c := 2 + 3 * most) (m := 5040) (by omega) (by omega) (by omega) (by omega)
  refine ok_g (cell_T ns a0) (ok_g d1 (ok_bnd (fun ds => (ds.length : Int) = 2 + 3 * most ∧ ∀ x ∈ ds, 0 ≤ x ∧ x < 5040) ⟨d2, d3⟩ fun ds ⟨l1, dr⟩ => ?_))
  have p := pk dr
  have p0 := p 0 (by omega)
  have hq0 := Int.emod_nonneg (ds.getD 0 0) (show most + 1 ≠ 0 by omega)
  have hq1 := Int.emod_lt_of_pos (ds.getD 0 0) (show 0 < most + 1 by omega)
  refine ok_g (by omega) (ok_g (by omega) (ok_g (r62_s (by omega) (by omega)) (ok_for0 (fun ls => LdsOk l ls ∧ (ls.length : Int) ≤ most) (And.imp id (fun h => ⟨h.1, by have := h.2; omega⟩) (LpS_rng (fun k ls => LdsOk l ls ∧ (ls.length : Int) = k) ⟨⟨Nat.zero_le _, (fun d hd => nomatch hd), (fun d hd => nomatch hd), .nil⟩, rfl⟩ hq0 ?_)) fun s hs => hs)))
  intro k ls k0 k1 ⟨hl, hk⟩
  have pa := p (2 + 3 * k).toNat (by omega)
  have pb := p (3 + 3 * k).toNat (by omega)
  have pc := p (4 + 3 * k).toNat (by omega)
  have pT := place_T h (one := ds.getD (2 + 3 * k).toNat 0) (other := ds.getD (3 + 3 * k).toNat 0) pa.1 pb.1
  obtain ⟨g, hg⟩ : ∃ g, g = (([4, 60, 5000] : List Int).getD (((ds.getD 1 0) % 3)).toNat 0) := ⟨_, rfl⟩
  have gb : 0 < g ∧ g ≤ 5000 := by rw [hg]; exact get3i (P := fun g => 0 < g ∧ g ≤ 5000) (by decide) (by decide) (by decide)
  have e1 := Int.emod_nonneg (ds.getD (4 + 3 * k).toNat 0) (show g ≠ 0 by omega)
  have e2 := Int.emod_lt_of_pos (ds.getD (4 + 3 * k).toNat 0) gb.1
  rw [← hg]
  show Ok _ _ fun ls => LdsOk l ls ∧ (ls.length : Int) = k + 1
  refine ok_g ⟨by omega, by omega⟩ (ok_g ⟨by omega, by omega⟩ (ok_g pT.1 (ok_g ⟨by omega, by omega⟩ (ok_g (by omega) (ok_g gb.1 (ok_bnd (fun d => PlOk l 60 d.1 ∧ 1 ≤ d.2 ∧ d.2 < 8192) ⟨pT.2, by show 1 ≤ 1 + _; omega, by show 1 + _ < (8192 : Int); omega⟩ fun d ⟨hd1, hd2⟩ => ok_g (sz_ _ (by have := hl.n; omega)) (ok_g (fun o ho => ⟨hd1.sz (by decide) (by decide), (hl.p o ho).sz (by decide) (by decide)⟩) ?_)))))))
  rw [map_id_]
  refine ok_bnd (fun (s : Int) => s = ((ls.filter fun o => !decide (d.1 < o.1)).length : Int)) rfl fun spot hs => ?_
  obtain ⟨s1, s2⟩ := spot_split (q := d.1) hl.s
  have hln := List.length_filter_le (fun o : Rat × Int => !decide (d.1 < o.1)) ls
  have n16 := hl.n
  rw [hs, Int.toNat_natCast, List.drop_zero, Nat.sub_zero]
  generalize (ls.filter fun o => !decide (d.1 < o.1)).length = c at s1 s2 hln
  refine ⟨⟨by omega, sz_ _ (by rw [List.length_take]; show _ + 1 ≤ _; omega), sz_ _ (by rw [List.length_append, List.length_take, List.length_drop]; show _ + 1 + _ ≤ _; omega)⟩, ?_⟩
  show LdsOk l (ls.take c ++ [d] ++ ls.drop c) ∧ ((ls.take c ++ [d] ++ ls.drop c).length : Int) = k + 1
  have hm : ∀ x ∈ ls.take c ++ [d] ++ ls.drop c, x = d ∨ x ∈ ls := fun x hx => by
    rcases List.mem_append.mp hx with hx | hx
    · rcases List.mem_append.mp hx with hx | hx
      · exact .inr (List.mem_of_mem_take hx)
      · exact .inl (List.mem_singleton.mp hx)
    · exact .inr (List.mem_of_mem_drop hx)
  have hlen : (ls.take c ++ [d] ++ ls.drop c).length = ls.length + 1 := by
    rw [List.length_append, List.length_append, List.length_take, List.length_drop, List.length_singleton]; omega
  refine ⟨⟨by omega, fun x hx => ?_, fun x hx => ?_, ?_⟩, by omega⟩
  · rcases hm x hx with rfl | hx
    · exact hd1
    · exact hl.p x hx
  · rcases hm x hx with rfl | hx
    · exact hd2
    · exact hl.w x hx
  · refine List.pairwise_append.mpr ⟨List.pairwise_append.mpr ⟨hl.s.sublist (List.take_sublist _ _), List.pairwise_singleton _ _, fun y hy z hz => ?_⟩, hl.s.sublist (List.drop_sublist _ _), fun y hy z hz => ?_⟩
    · rw [List.mem_singleton] at hz; subst hz; exact s1 y hy
    · have := s2 z hz
      rcases List.mem_append.mp hy with hy | hy
      · have := s1 y hy; grind
      · rw [List.mem_singleton] at hy; subst hy; grind
end Law
end
section
set_option Elab.async false
set_option linter.all false
set_option maxRecDepth 100000
set_option maxHeartbeats 2000000
set_option autoImplicit false
open PySem PV
namespace Law
/-! spans, moments, heights: what they need and what they give -/
structure Sp (l : Ln) (k : Int) : Prop where
  ln : LnOk l
  k0 : 0 ≤ k
  k1 : k + 1 < l.1.length
def A (l : Ln) (k : Int) : Rat := ((X l k.toNat : Int) : Rat)
def B (l : Ln) (k : Int) : Rat := ((X l (k + 1).toNat : Int) : Rat)
def Wd (l : Ln) (k : Int) : Int := X l (k + 1).toNat - X l k.toNat
def hw (l : Ln) : Rat := ((l.2 : Int) : Rat) / 2
section
variable {l : Ln} {k : Int} {ls : List (Rat × Int)} {p : Rat} {D : Nat}
theorem Sp.lt (h : Sp l k) : X l k.toNat < X l (k + 1).toNat ∧ X l (k + 1).toNat < X l k.toNat + 512 := by
  have := h.ln.inc k.toNat (by have := h.k1; have := h.k0; omega)
  rw [show k.toNat + 1 = (k + 1).toNat from by have := h.k0; omega] at this
  exact this
theorem Sp.wd (h : Sp l k) : 0 < Wd l k ∧ Wd l k < 512 := by have := h.lt; unfold Wd; omega
theorem Sp.ab (h : Sp l k) : A l k < B l k := ratI_lt.mpr h.lt.1
theorem Sp.a (h : Sp l k) (D : Nat) : PlOk l D (A l k) := plOk_int h.ln (by have := h.k0; have := h.k1; omega) D
theorem Sp.b (h : Sp l k) (D : Nat) : PlOk l D (B l k) := plOk_int h.ln (by have := h.k0; have := h.k1; omega) D
theorem Sp.ends (h : Sp l k) : S_span_ends l k ∧ F_span_ends l k = (A l k, B l k) := ⟨⟨⟨h.k0, by have := h.k1; omega⟩, by have := h.k0; omega, h.k1⟩, rfl⟩
theorem Sp.bw (h : Sp l k) : B l k - A l k = ((Wd l k : Int) : Rat) := by unfold A B Wd; rw [Rat.intCast_sub]
theorem Sp.bwp (h : Sp l k) : B l k - A l k < pw 9 := by rw [h.bw]; exact (int_lt (k := 9) (by have := h.wd; omega)).2
theorem q2_of {p q : Rat} {D E : Nat} (hp : G D 12 p) (hq : G E 12 q) (d0 : 0 < D) (d1 : D < 2 ^ 64) (e0 : 0 < E) (e1 : E < 2 ^ 64) : Q2 p q := ⟨hp.sz d0 d1 (by decide), hq.sz e0 e1 (by decide)⟩
theorem loads_in_T (h : Sp l k) (hl : LdsOk l ls) : S_loads_in l ls k ∧ F_loads_in l ls k = ls.filter (ins (A l k) (B l k)) := by
  refine ⟨⟨h.ends.1, ?_⟩, ?_⟩
  · rw [h.ends.2]
    exact ⟨sz_ _ (by have := hl.n; omega), fun d hd => ⟨q2_of (h.a 1).g (hl.p d hd).g (by decide) (by decide) (by decide) (by decide), fun _ => q2_of (hl.p d hd).g (h.b 1).g (by decide) (by decide) (by decide) (by decide)⟩⟩
  · unfold F_loads_in
    rw [h.ends.2]
    show ((ls.filter fun (load : (Rat × Int)) => ((decide (A l k < load.1)) && (decide (load.1 < B l k)))).map fun (load : (Rat × Int)) => load) = _
    rw [map_id_]; rfl
theorem lesser_F (x p : Rat) : F_lesser x p = nearQ x p := by
  unfold F_lesser nearQ
  by_cases c : p < x
  · rw [decide_eq_true c, if_pos rfl, if_neg (by grind)]
  · rw [decide_eq_false c, if_neg (by decide)]
    split
    · rfl
    · grind
theorem greater_F (x p : Rat) : F_greater x p = farQ x p := by
  unfold F_greater farQ
  by_cases c : x < p
  · rw [decide_eq_true c, if_pos rfl, if_pos c]
  · rw [decide_eq_false c, if_neg (by decide), if_neg c]
theorem nf_or (x p : Rat) : (nearQ x p = x ∧ farQ x p = p) ∨ (nearQ x p = p ∧ farQ x p = x) := by
  by_cases c : x ≤ p
  · exact .inl (nf_le c)
  · exact .inr (nf_ge (by grind))
/-- a place within a span -/
structure Wi (l : Ln) (k : Int) (D : Nat) (p : Rat) : Prop where
  g : G D 12 p
  lo : A l k ≤ p
  hi : p ≤ B l k
theorem Wi.dvd {E : Nat} (h : Wi l k D p) (e : D ∣ E) : Wi l k E p := ⟨h.g.dvd e, h.lo, h.hi⟩
theorem Wi.near (h : Sp l k) (hp : Wi l k D p) : G D 9 (p - A l k) ∧ G D 9 (B l k - p) := by
  have q := h.bwp
  have := pw_pos 9
  have a := (h.a D).g
  have b := (h.b D).g
  exact ⟨(hp.g.sub a).val (by have := hp.lo; grind) (by have := hp.hi; grind), (b.sub hp.g).val (by have := hp.hi; grind) (by have := hp.lo; grind)⟩
theorem ins_wi (hl : LdsOk l ls) {d : Rat × Int} (hd : d ∈ ls) (hi : ins (A l k) (B l k) d = true) : Wi l k 60 d.1 := by
  unfold ins at hi
  rw [Bool.and_eq_true, decide_eq_true_eq, decide_eq_true_eq] at hi
  exact ⟨(hl.p d hd).g, by grind, by grind⟩
theorem Wi.nf (hp : Wi l k D p) {x : Rat} {E : Nat} (hx : Wi l k E x) : Wi l k (E * D) (nearQ x p) ∧ Wi l k (E * D) (farQ x p) := by
  rcases nf_or x p with ⟨e1, e2⟩ | ⟨e1, e2⟩ <;> rw [e1, e2]
  · exact ⟨hx.dvd (Nat.dvd_mul_right _ _), hp.dvd (Nat.dvd_mul_left _ _)⟩
  · exact ⟨hp.dvd (Nat.dvd_mul_left _ _), hx.dvd (Nat.dvd_mul_right _ _)⟩
/-- the moments' bottom -/
def MD (l : Ln) (k : Int) (D : Nat) : Nat := 2 * ((60 * D) * (60 * D)) * (Wd l k).natAbs
theorem MD_pos (h : Sp l k) (hD : 0 < D) : 0 < MD l k D := by
  unfold MD
  exact Nat.mul_pos (Nat.mul_pos (by decide) (Nat.mul_pos (by omega) (by omega))) (by have := h.wd; omega)
theorem lt_mul {a b c d : Nat} (h : a < 2 ^ c) (h' : b < 2 ^ d) : a * b < 2 ^ (c + d) := by
  rw [Nat.pow_add]; exact Nat.mul_lt_mul'' h h'
theorem MD_lt (h : Sp l k) {d : Nat} (hD : D < 2 ^ d) : MD l k D < 2 ^ (23 + 2 * d) := by
  have h1 : 60 * D < 2 ^ (6 + d) := lt_mul (by decide) hD
  have h2 := lt_mul h1 h1
  have h3 : 2 * ((60 * D) * (60 * D)) < 2 ^ (2 + (6 + d + (6 + d))) := lt_mul (by decide) h2
  have h4 : (Wd l k).natAbs < 2 ^ 9 := by have := h.wd; omega
  have h5 := lt_mul h3 h4
  unfold MD
  rw [show 23 + 2 * d = 2 + (6 + d + (6 + d)) + 9 from by omega]
  exact h5
theorem ne_of_pos {x : Rat} (h : 0 < x) : x ≠ 0 := by grind
theorem lm_T (h : Sp l k) (hD : 0 < D) (hD2 : D < 2 ^ 54) (hp : Wi l k D p) {d : Rat × Int} (hx : Wi l k 60 d.1) (hw : 1 ≤ d.2 ∧ d.2 < 8192) : S_load_moment (A l k) (B l k) d p ∧ F_load_moment (A l k) (B l k) d p = lm (A l k) (B l k) p d ∧ G (MD l k D) 31 (lm (A l k) (B l k) p d) := by
  obtain ⟨n, f⟩ := hp.nf hx
  have hE : 0 < 60 * D := by omega
  have hE2 : 60 * D < 2 ^ 64 := by omega
  have nn := n.near h
  have ff := f.near h
  have hg1 := nn.1.mul ff.2
  have hwt : G 1 13 ((d.2 : Int) : Rat) := G.int (by omega)
  have hg2 := hwt.mul hg1
  have w0 : Wd l k ≠ 0 := by have := h.wd; omega
  have hg3 := hg2.divI w0
  have hE3 : 60 * D * (60 * D) < 2 ^ 128 := lt_mul hE2 hE2
  have hE4 : 0 < 60 * D * (60 * D) := Nat.mul_pos hE hE
  refine ⟨⟨?_, ?_, ?_, ?_, ?_, ?_, ?_, ?_⟩, ?_, ?_⟩
  · exact q2_of hp.g hx.g hD (by omega) (by decide) (by decide)
  · rw [lesser_F]; exact q2_of n.g (h.a 1).g hE hE2 (by decide) (by decide)
  · exact q2_of hx.g hp.g (by decide) (by decide) hD (by omega)
  · rw [greater_F]; exact q2_of (h.b 1).g f.g (by decide) (by decide) hE hE2
  · rw [lesser_F, greater_F]; exact ⟨nn.1.sz hE hE2 (by decide), ff.2.sz hE hE2 (by decide)⟩
  · rw [lesser_F, greater_F]; exact ⟨hwt.sz (d := 1) (by decide) (by decide) (by decide), hg1.sz (d := 128) hE4 hE3 (by decide)⟩
  · exact q2_of (h.b 1).g (h.a 1).g (by decide) (by decide) (by decide) (by decide)
  · rw [lesser_F, greater_F, h.bw]
    exact ⟨hg2.sz (d := 128) (by omega) (by omega) (by decide), (G.int (k := 9) (by have := h.wd; omega)).sz (d := 1) (by decide) (by decide) (by decide), int_ne w0⟩
  · unfold F_load_moment lm
    rw [lesser_F, greater_F]; rfl
  · unfold lm
    rw [h.bw]
    exact hg3.dvd ⟨2, by unfold MD; rw [Nat.one_mul, Nat.mul_assoc 2, Nat.mul_comm 2]⟩
theorem sum_T {xs : List Rat} {E d : Nat} (h : ∀ x ∈ xs, G E 31 x) (hl : xs.length ≤ 16) (e0 : 0 < E) (e1 : E < 2 ^ d) (hd : d ≤ 160) : S_sum_of xs ∧ F_sum_of xs = sm xs := by
  constructor
  · show LpS (fun (found2 : Rat) (one : Rat) => Q2 found2 one) (fun (found2 : Rat) (one : Rat) => found2 + one) xs (((0 : Int)) : Rat)
    have key := LpS_pre (xs := xs) (s := (((0 : Int)) : Rat)) (S := fun (found2 : Rat) (one : Rat) => Q2 found2 one) (F := fun (found2 : Rat) (one : Rat) => found2 + one) (fun pre s => s = sm pre) rfl (by
      intro pre x post s e hs
      have hp : G E (31 + 4) (sm pre) := G.sum (fun y hy => h y (by rw [e]; exact List.mem_append_left _ hy)) (by
        have : xs.length = pre.length + (post.length + 1) := by rw [e, List.length_append, List.length_cons]
        show pre.length ≤ 16; omega)
      rw [hs]
      refine ⟨⟨hp.sz (d := d) (n := 200) e0 e1 (by omega), (h x (by rw [e]; simp)).sz (d := d) (n := 200) e0 e1 (by omega)⟩, ?_⟩
      rw [sm_app]
      show sm pre + x = sm pre + (x + 0)
      grind)
    exact key.1
  · show xs.foldl (fun (found2 : Rat) (one : Rat) => found2 + one) (((0 : Int)) : Rat) = _
    rw [foldl_sm]
    show (0 : Rat) + _ = _
    grind
theorem hw_G (h : LnOk l) : G 2 3 (hw l) := by
  have := (G.int (k := 3) (i := l.2) (by have := h.w; omega)).divI (m := 2) (by decide)
  exact this
theorem rope_T (h : Sp l k) (hD : 0 < D) (hD2 : D < 2 ^ 54) (hp : Wi l k D p) : S_rope_moment l (A l k) (B l k) p ∧ F_rope_moment l (A l k) (B l k) p = hw l * ((p - A l k) * (B l k - p)) ∧ G (MD l k D) 21 (hw l * ((p - A l k) * (B l k - p))) := by
  have nn := hp.near h
  have hg1 := nn.1.mul nn.2
  have hg2 := (hw_G h.ln).mul hg1
  have w := h.ln.w
  refine ⟨⟨⟨by decide, Nat.lt_of_lt_of_le (show l.2.natAbs < 2 ^ 3 by omega) (pow_le_pow2 (by decide)), by decide⟩, q2_of hp.g (h.a 1).g hD (by omega) (by decide) (by decide), q2_of (h.b 1).g hp.g (by decide) (by decide) hD (by omega), ⟨nn.1.sz (d := 64) hD (by omega) (by decide), nn.2.sz (d := 64) hD (by omega) (by decide)⟩, ⟨(hw_G h.ln).sz (d := 2) (by decide) (by decide) (by decide), hg1.sz (d := 108) (Nat.mul_pos hD hD) (lt_mul hD2 hD2) (by decide)⟩⟩, rfl, ?_⟩
  exact hg2.dvd ⟨60 * 60 * (Wd l k).natAbs, by unfold MD; simp only [Nat.mul_comm, Nat.mul_left_comm, Nat.mul_assoc]⟩
/-- the moment within a span -/
def mo (l : Ln) (ls : List (Rat × Int)) (k : Int) (p : Rat) : Rat := mom (A l k) (B l k) (hw l) ls p
theorem mo_G (h : Sp l k) (hl : LdsOk l ls) (hD : 0 < D) (hD2 : D < 2 ^ 54) (hp : Wi l k D p) : G (MD l k D) 36 (mo l ls k p) := by
  have hx : ∀ x ∈ (ls.filter (ins (A l k) (B l k))).map (lm (A l k) (B l k) p), G (MD l k D) 31 x := fun x hx => by
    obtain ⟨d, hd, rfl⟩ := List.mem_map.mp hx
    obtain ⟨hd1, hd2⟩ := List.mem_filter.mp hd
    exact (lm_T h hD hD2 hp (ins_wi hl hd1 hd2) (hl.w d hd1)).2.2
  have h1 := G.sum (j := 4) hx (by rw [List.length_map]; exact Nat.le_trans (List.length_filter_le _ _) hl.n)
  have h2 := ((rope_T h hD hD2 hp).2.2).mono (l := 35) (by decide)
  exact h1.add h2
theorem span_moment_T (h : Sp l k) (hl : LdsOk l ls) (hD : 0 < D) (hD2 : D < 2 ^ 54) (hp : Wi l k D p) : S_span_moment l ls k p ∧ F_span_moment l ls k p = mo l ls k p := by
  obtain ⟨i1, i2⟩ := loads_in_T h hl
  obtain ⟨r1, r2, r3⟩ := rope_T h hD hD2 hp
  have key : ∀ d ∈ ls.filter (ins (A l k) (B l k)), _ := fun d hd => lm_T h hD hD2 hp (ins_wi hl (List.mem_filter.mp hd).1 (List.mem_filter.mp hd).2) (hl.w d (List.mem_filter.mp hd).1)
  have em : (ls.filter (ins (A l k) (B l k))).map (fun (load : (Rat × Int)) => (F_load_moment (A l k) (B l k) load p)) = (ls.filter (ins (A l k) (B l k))).map (lm (A l k) (B l k) p) := List.map_congr_left fun d hd => (key d hd).2.1
  have hn : (ls.filter (ins (A l k) (B l k))).length ≤ 16 := Nat.le_trans (List.length_filter_le _ _) hl.n
  have hs := sum_T (xs := (ls.filter (ins (A l k) (B l k))).map (lm (A l k) (B l k) p)) (E := MD l k D) (d := 131) (fun x hx => by
    obtain ⟨d, hd, rfl⟩ := List.mem_map.mp hx
    exact (key d hd).2.2) (by rw [List.length_map]; exact hn) (MD_pos h hD) (MD_lt h hD2) (by decide)
  have hG := G.sum (j := 4) (D := MD l k D) (k := 31) (xs := (ls.filter (ins (A l k) (B l k))).map (lm (A l k) (B l k) p)) (fun x hx => by
    obtain ⟨d, hd, rfl⟩ := List.mem_map.mp hx
    exact (key d hd).2.2) (by rw [List.length_map]; exact hn)
  constructor
  · refine ⟨h.ends.1, ?_⟩
    rw [h.ends.2]
    refine ⟨i1, ?_⟩
    rw [i2]
    refine ⟨sz_ _ (by omega), fun d hd => (key d hd).1, ?_⟩
    show S_sum_of (List.map _ _) ∧ _ ∧ Q2 (F_sum_of (List.map _ _)) _
    rw [em]
    refine ⟨hs.1, r1, ?_, ?_⟩
    · rw [hs.2]; exact hG.sz (MD_pos h hD) (MD_lt h hD2) (by decide)
    · show Sz 200 (F_rope_moment l (A l k) (B l k) p)
      rw [r2]; exact r3.sz (MD_pos h hD) (MD_lt h hD2) (by decide)
  · unfold F_span_moment
    rw [h.ends.2, i2]
    show F_sum_of (List.map _ _) + F_rope_moment l (A l k) (B l k) p = _
    rw [em, hs.2, r2]; rfl
end
end Law
end
section
set_option Elab.async false
set_option linter.all false
set_option maxRecDepth 100000
set_option maxHeartbeats 2000000
set_option autoImplicit false
open PySem PV
namespace Law
section
variable {l : Ln} {k : Int} {ls : List (Rat × Int)} {p : Rat} {D : Nat}
/-- a fold with a test, as a sum -/
theorem fold_ins {c : Rat × Int → Bool} {f : Rat × Int → Rat} : ∀ (xs : List (Rat × Int)) (s : Rat), xs.foldl (fun t d => if c d = true then t + f d else t) s = s + sm ((xs.filter c).map f)
  | [], s => by show s = s + 0; grind
  | d :: r, s => by
    rw [List.foldl_cons, fold_ins r, List.filter_cons]
    cases h : c d with
    | true =>
      show s + f d + _ = s + (f d + sm ((r.filter c).map f))
      grind
    | false => rfl
/-- the span of a place -/
theorem span_of_T (h : Sp l k) (hD : 0 < D) (hD2 : D < 2 ^ 54) (hp : Wi l k D p) (hk : p < B l k ∨ k + 2 = l.1.length) : S_span_of l p ∧ F_span_of l p = k := by
  have n2 := h.ln.n2
  have n12 := h.ln.n12
  have k0 := h.k0
  have k1 := h.k1
  have key := LpS_rng (n := (l.1.length : Int) - 1) (s0 := (0 : Int)) (S := fun (found : Int) (span : Int) => S_span_ends l span ∧ Q2 p (F_span_ends l span).1) (F := fun (found : Int) (span : Int) =>
  (if (!(decide (p < (F_span_ends l span).1))) = true then span
  else found)) (fun j s => s = if j ≤ k + 1 then max 0 (j - 1) else k) (by rw [if_pos (by omega)]; omega) (by omega) (by
    intro j s j0 j1 hs
    have hj : Sp l j := ⟨h.ln, j0, by omega⟩
    refine ⟨⟨hj.ends.1, ?_⟩, ?_⟩
    · rw [hj.ends.2]; exact q2_of hp.g (hj.a 1).g hD (by omega) (by decide) (by decide)
    · rw [hj.ends.2]
      show (if (!(decide (p < A l j))) = true then j else s) = _
      by_cases c : j ≤ k
      · have : A l j ≤ p := by
          have : A l j ≤ A l k := ratI_le.mpr (by
            by_cases e : j = k
            · subst e; exact Int.le_refl _
            · exact Int.le_of_lt (h.ln.lt (by omega) (by omega)))
          have := hp.lo; grind
        rw [decide_eq_false (by grind), Bool.not_false, if_pos rfl, if_pos (by omega)]; omega
      · have : p < A l j := by
          rcases hk with hk | hk
          · have : B l k ≤ A l j := ratI_le.mpr (by
              by_cases e : j = k + 1
              · subst e; exact Int.le_refl _
              · exact Int.le_of_lt (h.ln.lt (by omega) (by omega)))
            grind
          · omega
        rw [decide_eq_true this, Bool.not_true, if_neg (by decide), hs]
        by_cases c2 : j = k + 1
        · rw [if_pos (by omega), if_neg (by omega)]; omega
        · rw [if_neg (by omega), if_neg (by omega)])
  refine ⟨⟨r62_s (by show -(2 ^ 62) ≤ (l.1.length : Int) - 1; omega) (by show (l.1.length : Int) - 1 < 2 ^ 62; omega), key.1⟩, ?_⟩
  refine (show F_span_of l p = (rngI 0 ((l.1.length : Int) - 1)).foldl _ 0 from rfl).trans (key.2.trans ?_)
  by_cases c : (l.1.length : Int) - 1 ≤ k + 1
  · rw [if_pos c]; omega
  · rw [if_neg c]
def Yv (l : Ln) (i : Nat) : Int := (l.1.getD i (0, 0)).2
theorem LnOk.yb (h : LnOk l) {i : Nat} (hi : i < l.1.length) : (Yv l i).natAbs < 2 ^ 12 := (h.bx _ (gd_mem hi)).2
def slp (l : Ln) (k : Int) : Rat := ((Yv l (k + 1).toNat - Yv l k.toNat : Int) : Rat) / ((Wd l k : Int) : Rat)
def cho (l : Ln) (k : Int) (p : Rat) : Rat := ((Yv l k.toNat : Int) : Rat) + slp l k * (p - A l k)
theorem slope_T (h : Sp l k) : S_slope l k ∧ F_slope l k = slp l k ∧ G (Wd l k).natAbs 13 (slp l k) := by
  have k0 := h.k0
  have k1 := h.k1
  have wd := h.wd
  have y0 := h.ln.yb (i := k.toNat) (by omega)
  have y1 := h.ln.yb (i := (k + 1).toNat) (by omega)
  have hn : (Yv l (k + 1).toNat - Yv l k.toNat).natAbs < 2 ^ 13 := by omega
  refine ⟨⟨⟨h.k0, by omega⟩, ⟨by omega, k1⟩, ?_⟩, rfl, ?_⟩
  · show Qf (Yv l (k + 1).toNat - Yv l k.toNat) (Wd l k)
    exact ⟨by omega, Nat.lt_of_lt_of_le hn (pow_le_pow2 (by decide)), Nat.lt_of_lt_of_le (show (Wd l k).natAbs < 2 ^ 9 by omega) (pow_le_pow2 (by decide))⟩
  · exact ((G.int hn).divI (m := Wd l k) (by omega)).cast (Nat.one_mul _)
theorem chord_T (h : Sp l k) (hD : 0 < D) (hD2 : D < 2 ^ 54) (hp : Wi l k D p) (hk : p < B l k ∨ k + 2 = l.1.length) : S_chord l p ∧ F_chord l p = cho l k p ∧ G ((Wd l k).natAbs * D) 23 (cho l k p) := by
  have k0 := h.k0
  have k1 := h.k1
  have wd := h.wd
  obtain ⟨s1, s2⟩ := span_of_T h hD hD2 hp hk
  obtain ⟨t1, t2, t3⟩ := slope_T h
  have y0 := h.ln.yb (i := k.toNat) (by omega)
  have nn := hp.near h
  have hm := t3.mul nn.1
  have hy : G 1 22 ((Yv l k.toNat : Int) : Rat) := (G.int y0).mono (by decide)
  have hw2 : (Wd l k).natAbs < 2 ^ 9 := by omega
  have hc : G ((Wd l k).natAbs * D) 23 (cho l k p) := ((hy.up _).cast (Nat.one_mul _)).add hm
  refine ⟨⟨s1, ?_⟩, ?_, hc⟩
  · rw [s2]
    refine ⟨⟨k0, by omega⟩, ?_⟩
    show S_slope l k ∧ Q2 p (A l k) ∧ Q2 (F_slope l k) (p - A l k) ∧ Q2 ((Yv l k.toNat : Int) : Rat) (F_slope l k * (p - A l k))
    rw [t2]
    exact ⟨t1, q2_of hp.g (h.a 1).g hD (by omega) (by decide) (by decide), ⟨t3.sz (d := 9) (by omega) hw2 (by decide), nn.1.sz (d := 54) hD hD2 (by decide)⟩, hy.sz (d := 1) (by decide) (by decide) (by decide), hm.sz (d := 63) (Nat.mul_pos (by omega) hD) (lt_mul hw2 hD2) (by decide)⟩
  · unfold F_chord
    rw [s2]
    show ((Yv l k.toNat : Int) : Rat) + F_slope l k * (p - A l k) = _
    rw [t2]; rfl
theorem moment_T (h : Sp l k) (hl : LdsOk l ls) (hD : 0 < D) (hD2 : D < 2 ^ 54) (hp : Wi l k D p) (hk : p < B l k ∨ k + 2 = l.1.length) : S_moment l ls p ∧ F_moment l ls p = mo l ls k p := by
  obtain ⟨s1, s2⟩ := span_of_T h hD hD2 hp hk
  obtain ⟨m1, m2⟩ := span_moment_T h hl hD hD2 hp
  unfold S_moment F_moment
  rw [s2]
  exact ⟨⟨s1, m1⟩, m2⟩
/-- tensions -/
structure TnOk (e j : Nat) (t : Rat) : Prop where
  ex : ∃ (E : Nat) (m : Int), 0 < E ∧ E ≤ 2 ^ e ∧ t * (E : Rat) = (m : Rat) ∧ m.natAbs < 2 ^ j
  pos : 0 < t
theorem TnOk.sz {e j : Nat} {t : Rat} (h : TnOk e j t) (hj : j ≤ 100) (he : e ≤ 90) : Sz 200 t := by
  obtain ⟨E, m, h1, h2, h3, h4⟩ := h.ex
  have e2 : t = Rat.divInt m (E : Int) := by
    rw [Rat.divInt_eq_div, ← h3]
    have := nat_ne h1
    have e3 : (((E : Int)) : Rat) = (E : Rat) := rfl
    rw [e3]; grind
  rw [e2]
  exact divInt_sz (by omega) (Nat.lt_of_lt_of_le h4 (pow_le_pow2 (by omega))) (by rw [Int.natAbs_natCast]; exact Nat.lt_of_le_of_lt h2 (Nat.pow_lt_pow_right (by decide) (by omega)))
/-- over a tension -/
theorem ten_G {e j E K : Nat} {q t : Rat} (hq : G E K q) (h : TnOk e j t) : ∃ E', 0 < E' ∧ E' < 2 ^ j ∧ G (E * E') (K + e) (q / t) := by
  obtain ⟨F, m, h1, h2, h3, h4⟩ := h.ex
  have m0 := top_ne h1 h3 (ne_of_pos h.pos)
  exact ⟨m.natAbs, by omega, h4, hq.div h1 h2 h3 (ne_of_pos h.pos)⟩
theorem height_T {e j : Nat} {t : Rat} (h : Sp l k) (hl : LdsOk l ls) (hD : 0 < D) {d : Nat} (hD2 : D < 2 ^ d) (hp : Wi l k D p) (hk : p < B l k ∨ k + 2 = l.1.length) (ht : TnOk e j t) (hd : 3 * d + j + e ≤ 120) (hj : d ≤ 54) (hj2 : j ≤ 100) (he2 : e ≤ 90) : S_height l ls t p ∧ F_height l ls t p = cho l k p - mo l ls k p / t ∧ ∃ E, 0 < E ∧ E < 2 ^ (32 + 3 * d + j) ∧ G E (37 + e) (cho l k p - mo l ls k p / t) := by
  have hD3 : D < 2 ^ 54 := Nat.lt_of_lt_of_le hD2 (pow_le_pow2 hj)
  obtain ⟨c1, c2, c3⟩ := chord_T h hD hD3 hp hk
  obtain ⟨m1, m2⟩ := moment_T h hl hD hD3 hp hk
  have mg := mo_G h hl hD hD3 hp
  obtain ⟨E', e0, e1, hq⟩ := ten_G mg ht
  have wd := h.wd
  have hw2 : (Wd l k).natAbs < 2 ^ 9 := by omega
  have p1 := lt_mul (MD_lt h hD2) e1
  have p2 : (Wd l k).natAbs * D < 2 ^ (9 + d) := lt_mul hw2 hD2
  have q1 := Nat.mul_pos (MD_pos (D := D) h hD) e0
  have q2 : 0 < (Wd l k).natAbs * D := Nat.mul_pos (by omega) hD
  refine ⟨⟨c1, m1, ?_, ?_⟩, ?_, _, Nat.mul_pos q2 q1, ?_, (((c3.up (MD l k D * E')).mono (l := 36 + e) (by omega)).sub ((hq.up ((Wd l k).natAbs * D)).cast (Nat.mul_comm _ _))).mono (by omega)⟩
  · rw [m2]; exact ⟨mg.sz (MD_pos h hD) (MD_lt h hD2) (by omega), ht.sz (by omega) (by omega), ne_of_pos ht.pos⟩
  · rw [c2, m2]; exact ⟨c3.sz q2 p2 (by omega), hq.sz q1 p1 (by omega)⟩
  · unfold F_height; rw [c2, m2]
  · have := lt_mul p2 p1
    rw [show 9 + d + (23 + 2 * d + j) = 32 + 3 * d + j from by omega] at this
    exact this
end
end Law
end
section
set_option Elab.async false
set_option linter.all false
set_option maxRecDepth 100000
set_option maxHeartbeats 2000000
set_option autoImplicit false
open PySem PV
namespace Law
section
variable {l : Ln} {k : Int} {ls : List (Rat × Int)} {p : Rat} {D : Nat}
def wq (d : Rat × Int) : Rat := ((d.2 : Int) : Rat)
def ahd (l : Ln) (ls : List (Rat × Int)) (k : Int) : Rat := sm ((ls.filter (ins (A l k) (B l k))).map fun d => (wq d * (d.1 - A l k)) / (B l k - A l k)) + hw l * (B l k - A l k)
def bhd (l : Ln) (ls : List (Rat × Int)) (k : Int) : Rat := sm ((ls.filter (ins (A l k) (B l k))).map fun d => (wq d * (B l k - d.1)) / (B l k - A l k)) + hw l * (B l k - A l k)
def SD (l : Ln) (k : Int) : Nat := 120 * (Wd l k).natAbs
theorem SD_b (h : Sp l k) : 0 < SD l k ∧ SD l k < 2 ^ 16 := by have := h.wd; unfold SD; omega
theorem share_T (h : Sp l k) (hl : LdsOk l ls) (g : Rat × Int → Rat) (hg : ∀ d ∈ ls, ins (A l k) (B l k) d = true → G 60 9 (g d)) :
    (∀ d ∈ ls.filter (ins (A l k) (B l k)), Q2 (wq d) (g d) ∧ Q2 (B l k) (A l k) ∧ Qd (wq d * g d) (B l k - A l k)) ∧ S_sum_of ((ls.filter (ins (A l k) (B l k))).map fun d => (wq d * g d) / (B l k - A l k)) ∧ Qf l.2 2 ∧ Q2 (((l.2 : Int) : Rat) / ((2 : Int) : Rat)) (B l k - A l k) ∧
    Q2 (F_sum_of ((ls.filter (ins (A l k) (B l k))).map fun d => (wq d * g d) / (B l k - A l k))) ((((l.2 : Int) : Rat) / ((2 : Int) : Rat)) * (B l k - A l k)) ∧ F_sum_of ((ls.filter (ins (A l k) (B l k))).map fun d => (wq d * g d) / (B l k - A l k)) = sm ((ls.filter (ins (A l k) (B l k))).map fun d => (wq d * g d) / (B l k - A l k)) ∧
    G (SD l k) 27 (sm ((ls.filter (ins (A l k) (B l k))).map fun d => (wq d * g d) / (B l k - A l k)) + hw l * (B l k - A l k)) := by
  have w0 : Wd l k ≠ 0 := by have := h.wd; omega
  have wd := h.wd
  have sd := SD_b h
  have one : ∀ d ∈ ls, ins (A l k) (B l k) d = true → G 1 13 (wq d) ∧ G 60 22 (wq d * g d) ∧ G (60 * (Wd l k).natAbs) 22 ((wq d * g d) / (B l k - A l k)) := fun d hd hi => by
    have hw := hl.w d hd
    have g1 : G 1 13 (wq d) := G.int (by omega)
    have g2 := (g1.mul (hg d hd hi)).cast (Nat.one_mul 60)
    exact ⟨g1, g2, by rw [h.bw]; exact g2.divI w0⟩
  have hx : ∀ x ∈ (ls.filter (ins (A l k) (B l k))).map (fun d => (wq d * g d) / (B l k - A l k)), G (60 * (Wd l k).natAbs) 22 x := fun x hx => by
    obtain ⟨d, hd, rfl⟩ := List.mem_map.mp hx
    obtain ⟨d1, d2⟩ := List.mem_filter.mp hd
    exact (one d d1 d2).2.2
  have hn : (ls.filter (ins (A l k) (B l k))).length ≤ 16 := Nat.le_trans (List.length_filter_le _ _) hl.n
  have hs := sum_T (E := 60 * (Wd l k).natAbs) (d := 16) (fun x hxx => (hx x hxx).mono (by decide)) (by rw [List.length_map]; exact hn) (by omega) (by omega) (by decide)
  have hG := G.sum (j := 4) hx (by rw [List.length_map]; exact hn)
  have gb : G 1 9 (B l k - A l k) := by rw [h.bw]; exact G.int (by omega)
  have gh := (hw_G h.ln).mul gb
  have w := h.ln.w
  refine ⟨fun d hd => ?_, hs.1, ⟨by decide, Nat.lt_of_lt_of_le (show l.2.natAbs < 2 ^ 3 by omega) (pow_le_pow2 (by decide)), by decide⟩, ⟨(hw_G h.ln).sz (d := 2) (by decide) (by decide) (by decide), gb.sz (d := 1) (by decide) (by decide) (by decide)⟩, ⟨?_, gh.sz (d := 2) (by decide) (by decide) (by decide)⟩, hs.2, ?_⟩
  · obtain ⟨d1, d2⟩ := List.mem_filter.mp hd
    obtain ⟨o1, o2, o3⟩ := one d d1 d2
    exact ⟨⟨o1.sz (d := 1) (by decide) (by decide) (by decide), (hg d d1 d2).sz (d := 6) (by decide) (by decide) (by decide)⟩, q2_of (h.b 1).g (h.a 1).g (by decide) (by decide) (by decide) (by decide), o2.sz (d := 6) (by decide) (by decide) (by decide), gb.sz (d := 1) (by decide) (by decide) (by decide), by have := h.ab; grind⟩
  · rw [hs.2]; exact hG.sz (d := 16) (by omega) (by omega) (by decide)
  · have a := (hG.up 2).cast (show 60 * (Wd l k).natAbs * 2 = SD l k by unfold SD; omega)
    have b := (gh.up (60 * (Wd l k).natAbs)).cast (show 2 * 1 * (60 * (Wd l k).natAbs) = SD l k by unfold SD; omega)
    exact a.add (b.mono (by decide))
theorem ahead_T (h : Sp l k) (hl : LdsOk l ls) : S_share_ahead l ls k ∧ F_share_ahead l ls k = ahd l ls k ∧ G (SD l k) 27 (ahd l ls k) := by
  obtain ⟨i1, i2⟩ := loads_in_T h hl
  obtain ⟨a1, a2, a3, a4, a5, a6, a7⟩ := share_T h hl (fun d => d.1 - A l k) fun d hd hi => ((ins_wi hl hd hi).near h).1
  unfold S_share_ahead F_share_ahead
  rw [h.ends.2, i2]
  refine ⟨⟨h.ends.1, i1, sz_ _ (Nat.le_trans (List.length_filter_le _ _) (by have := hl.n; omega)), fun d hd => ⟨q2_of (hl.p d (List.mem_filter.mp hd).1).g (h.a 1).g (by decide) (by decide) (by decide) (by decide), a1 d hd⟩, a2, a3, q2_of (h.b 1).g (h.a 1).g (by decide) (by decide) (by decide) (by decide), a4, a5⟩, ?_, a7⟩
  show F_sum_of ((ls.filter (ins (A l k) (B l k))).map fun d => (wq d * (d.1 - A l k)) / (B l k - A l k)) + _ = _
  rw [a6]; rfl
theorem behind_T (h : Sp l k) (hl : LdsOk l ls) : S_share_behind l ls k ∧ F_share_behind l ls k = bhd l ls k ∧ G (SD l k) 27 (bhd l ls k) := by
  obtain ⟨i1, i2⟩ := loads_in_T h hl
  obtain ⟨a1, a2, a3, a4, a5, a6, a7⟩ := share_T h hl (fun d => B l k - d.1) fun d hd hi => ((ins_wi hl hd hi).near h).2
  unfold S_share_behind F_share_behind
  rw [h.ends.2, i2]
  refine ⟨⟨h.ends.1, i1, sz_ _ (Nat.le_trans (List.length_filter_le _ _) (by have := hl.n; omega)), fun d hd => ⟨q2_of (h.b 1).g (hl.p d (List.mem_filter.mp hd).1).g (by decide) (by decide) (by decide) (by decide), a1 d hd⟩, a2, a3, q2_of (h.b 1).g (h.a 1).g (by decide) (by decide) (by decide) (by decide), a4, a5⟩, ?_, a7⟩
  show F_sum_of ((ls.filter (ins (A l k) (B l k))).map fun d => (wq d * (B l k - d.1)) / (B l k - A l k)) + _ = _
  rw [a6]; rfl
end
section
variable {l : Ln} {i : Int} {ls : List (Rat × Int)}
def atw (l : Ln) (ls : List (Rat × Int)) (i : Int) : Rat := sm ((ls.filter fun d => decide (d.1 = A l i)).map wq)
def bur (l : Ln) (ls : List (Rat × Int)) (i : Int) : Rat := (atw l ls i + if 0 < i then ahd l ls (i - 1) else 0) + if i < (l.1.length : Int) - 1 then bhd l ls i else 0
def knk (l : Ln) (i : Int) : Rat := (if 0 < i then slp l (i - 1) else 0) - if i < (l.1.length : Int) - 1 then slp l i else 0
theorem atw_G (hl : LdsOk l ls) {c : Rat × Int → Bool} : G 1 17 (sm ((ls.filter c).map wq)) := by
  refine G.sum (k := 13) (j := 4) (fun x hx => ?_) (by rw [List.length_map]; exact Nat.le_trans (List.length_filter_le _ _) hl.n)
  obtain ⟨d, hd, rfl⟩ := List.mem_map.mp hx
  have := hl.w d (List.mem_filter.mp hd).1
  exact G.int (by omega)
theorem burden_T (hln : LnOk l) (hl : LdsOk l ls) (i0 : 0 ≤ i) (i1 : i < l.1.length) : S_burden l ls i ∧ F_burden l ls i = bur l ls i ∧ ∃ D, 0 < D ∧ D < 2 ^ 32 ∧ G D 29 (bur l ls i) := by
  have hs := sum_T (xs := (ls.filter fun d => decide (d.1 = A l i)).map wq) (E := 1) (d := 1) (fun x hx => by
    obtain ⟨d, hd, rfl⟩ := List.mem_map.mp hx
    have := hl.w d (List.mem_filter.mp hd).1
    exact (G.int (k := 13) (by omega)).mono (by decide)) (by rw [List.length_map]; exact Nat.le_trans (List.length_filter_le _ _) hl.n) (by decide) (by decide) (by decide)
  have g0 := atw_G hl (c := fun d => decide (d.1 = A l i))
  have sa : 0 < i → Sp l (i - 1) := fun c => ⟨hln, by omega, by omega⟩
  have sb : i < (l.1.length : Int) - 1 → Sp l i := fun c => ⟨hln, i0, by omega⟩
  obtain ⟨D1, D10, D11, g1⟩ : ∃ D, 0 < D ∧ D < 2 ^ 16 ∧ G D 28 (atw l ls i + if 0 < i then ahd l ls (i - 1) else 0) := by
    by_cases c : 0 < i
    · rw [if_pos c]
      exact ⟨_, (SD_b (sa c)).1, (SD_b (sa c)).2, (((g0.up _).cast (Nat.one_mul _)).mono (by decide)).add (ahead_T (sa c) hl).2.2⟩
    · rw [if_neg c]
      exact ⟨1, by decide, by decide, (g0.mono (l := 27) (by decide)).add G.zero⟩
  have hv1 : (if (decide (0 < i)) = true then (bnd (atw l ls i + (F_share_ahead l ls (i - 1))) fun (found3 : Rat) => found3) else atw l ls i) = atw l ls i + if 0 < i then ahd l ls (i - 1) else 0 := by
    by_cases c : 0 < i
    · rw [decide_eq_true c, if_pos rfl, if_pos c, (ahead_T (sa c) hl).2.1]; rfl
    · rw [decide_eq_false c, if_neg (by decide), if_neg c]; grind
  have hD2 : ∃ D, 0 < D ∧ D < 2 ^ 32 ∧ G D 29 (bur l ls i) := by
    unfold bur
    by_cases c : i < (l.1.length : Int) - 1
    · rw [if_pos c]
      have sd := SD_b (sb c)
      exact ⟨D1 * SD l i, Nat.mul_pos D10 sd.1, lt_mul D11 sd.2, (g1.up _).add ((((behind_T (sb c) hl).2.2.up D1).cast (Nat.mul_comm _ _)).mono (by decide))⟩
    · rw [if_neg c]
      exact ⟨D1, D10, by omega, g1.add G.zero⟩
  show Ok (S_burden l ls i) (F_burden l ls i) fun b => b = bur l ls i ∧ _
  unfold S_burden F_burden
  refine ok_g ⟨i0, i1⟩ (ok_bnd (fun h => h = A l i) rfl fun here hh => ?_)
  subst hh
  refine ok_g (sz_ _ (by have := hl.n; omega)) (ok_g hs.1 (ok_bnd (fun f => f = atw l ls i) hs.2 fun f hf => ?_))
  subst hf
  refine ok_g (fun c => ?_) (ok_bnd (fun f => f = atw l ls i + if 0 < i then ahd l ls (i - 1) else 0) hv1 fun f hf => ⟨fun c => ?_, ?_⟩)
  · have c := of_decide_eq_true c
    obtain ⟨a1, a2, a3⟩ := ahead_T (sa c) hl
    refine ⟨a1, g0.sz (d := 1) (by decide) (by decide) (by decide), ?_⟩
    rw [a2]; exact a3.sz (SD_b (sa c)).1 (SD_b (sa c)).2 (by decide)
  · have c : i < (l.1.length : Int) - 1 := of_decide_eq_true c
    obtain ⟨a1, a2, a3⟩ := behind_T (sb c) hl
    refine ⟨a1, ?_, ?_⟩
    · rw [hf]; exact g1.sz D10 D11 (by decide)
    · rw [a2]; exact a3.sz (SD_b (sb c)).1 (SD_b (sb c)).2 (by decide)
  · refine ⟨?_, hD2⟩
    show (if (decide (i < (l.1.length : Int) - 1)) = true then f + F_share_behind l ls i else f) = _
    unfold bur
    rw [hf]
    by_cases c : i < (l.1.length : Int) - 1
    · rw [decide_eq_true c, if_pos rfl, if_pos c, (behind_T (sb c) hl).2.1]
    · rw [decide_eq_false c, if_neg (by decide), if_neg c]; grind
theorem knk_G (hln : LnOk l) (i0 : 0 ≤ i) (i1 : i < l.1.length) : ∃ D1 D2, 0 < D1 ∧ D1 < 2 ^ 9 ∧ 0 < D2 ∧ D2 < 2 ^ 9 ∧ G D1 13 (if 0 < i then slp l (i - 1) else 0) ∧ G D2 13 (if i < (l.1.length : Int) - 1 then slp l i else 0) := by
  have sa : 0 < i → Sp l (i - 1) := fun c => ⟨hln, by omega, by omega⟩
  have sb : i < (l.1.length : Int) - 1 → Sp l i := fun c => ⟨hln, i0, by omega⟩
  obtain ⟨D1, a1, a2, a3⟩ : ∃ D, 0 < D ∧ D < 2 ^ 9 ∧ G D 13 (if 0 < i then slp l (i - 1) else 0) := by
    by_cases c : 0 < i
    · rw [if_pos c]; have := (sa c).wd; exact ⟨_, by omega, by omega, (slope_T (sa c)).2.2⟩
    · rw [if_neg c]; exact ⟨1, by decide, by decide, G.zero⟩
  obtain ⟨D2, b1, b2, b3⟩ : ∃ D, 0 < D ∧ D < 2 ^ 9 ∧ G D 13 (if i < (l.1.length : Int) - 1 then slp l i else 0) := by
    by_cases c : i < (l.1.length : Int) - 1
    · rw [if_pos c]; have := (sb c).wd; exact ⟨_, by omega, by omega, (slope_T (sb c)).2.2⟩
    · rw [if_neg c]; exact ⟨1, by decide, by decide, G.zero⟩
  exact ⟨D1, D2, a1, a2, b1, b2, a3, b3⟩
theorem kink_T (hln : LnOk l) (i0 : 0 ≤ i) (i1 : i < l.1.length) : S_kink l i ∧ F_kink l i = knk l i ∧ ∃ D, 0 < D ∧ D < 2 ^ 18 ∧ G D 14 (knk l i) := by
  have sa : 0 < i → Sp l (i - 1) := fun c => ⟨hln, by omega, by omega⟩
  have sb : i < (l.1.length : Int) - 1 → Sp l i := fun c => ⟨hln, i0, by omega⟩
  obtain ⟨D1, D2, a1, a2, b1, b2, a3, b3⟩ := knk_G hln i0 i1
  have v1 : (if (decide (0 < i)) = true then (F_slope l (i - 1)) else (((0 : Int)) : Rat)) = if 0 < i then slp l (i - 1) else 0 := by
    by_cases c : 0 < i
    · rw [decide_eq_true c, if_pos rfl, if_pos c, (slope_T (sa c)).2.1]
    · rw [decide_eq_false c, if_neg (by decide), if_neg c]; rfl
  have v2 : (if (decide (i < (F_span_count l))) = true then (F_slope l i) else (((0 : Int)) : Rat)) = if i < (l.1.length : Int) - 1 then slp l i else 0 := by
    show (if (decide (i < (l.1.length : Int) - 1)) = true then (F_slope l i) else (((0 : Int)) : Rat)) = _
    by_cases c : i < (l.1.length : Int) - 1
    · rw [decide_eq_true c, if_pos rfl, if_pos c, (slope_T (sb c)).2.1]
    · rw [decide_eq_false c, if_neg (by decide), if_neg c]; rfl
  refine ⟨⟨fun c => (slope_T (sa (of_decide_eq_true c))).1, fun c => (slope_T (sb (of_decide_eq_true c))).1, ?_⟩, ?_, ⟨D1 * D2, Nat.mul_pos a1 b1, lt_mul a2 b2, (a3.up D2).sub ((b3.up D1).cast (Nat.mul_comm _ _))⟩⟩
  · rw [v1, v2]; exact ⟨a3.sz a1 a2 (by decide), b3.sz b1 b2 (by decide)⟩
  · show (if (decide (0 < i)) = true then (F_slope l (i - 1)) else (((0 : Int)) : Rat)) - (if (decide (i < (F_span_count l))) = true then (F_slope l i) else (((0 : Int)) : Rat)) = _
    rw [v1, v2]; rfl
theorem tn_G {e j : Nat} {t : Rat} (h : TnOk e j t) : ∃ E, 0 < E ∧ E ≤ 2 ^ e ∧ G E j t := by
  obtain ⟨E, m, h1, h2, h3, h4⟩ := h.ex
  have hp := h.pos
  have E1 : (1 : Rat) ≤ (E : Rat) := Rat.natCast_le_natCast.mpr h1
  have hm := (int_lt h4).2
  have := Rat.mul_nonneg (show 0 ≤ t by grind) (show 0 ≤ (E : Rat) - 1 by grind)
  have := pw_pos j
  exact ⟨E, h1, h2, ⟨m, h3⟩, by grind, by grind⟩
theorem press_G {e j : Nat} {t b c : Rat} {D1 D2 : Nat} (ht : TnOk e j t) (he : e ≤ 20) (hj : j ≤ 80) (g1 : G D1 29 b) (d10 : 0 < D1) (d11 : D1 < 2 ^ 32) (g2 : G D2 14 c) (d20 : 0 < D2) (d21 : D2 < 2 ^ 18) : Q2 t c ∧ Q2 b (t * c) ∧ ∃ D, 0 < D ∧ D < 2 ^ 72 ∧ G D (max 29 (j + 14) + 1) (b + t * c) := by
  obtain ⟨E, e1, e2, e3⟩ := tn_G ht
  have g3 := e3.mul g2
  have hE : E < 2 ^ 21 := Nat.lt_of_le_of_lt e2 (Nat.pow_lt_pow_right (by decide) (by omega))
  have q0 := Nat.mul_pos e1 d20
  have q1 := lt_mul hE d21
  refine ⟨⟨ht.sz (by omega) (by omega), g2.sz d20 d21 (by decide)⟩, ⟨g1.sz d10 d11 (by decide), g3.sz q0 q1 (by omega)⟩, D1 * (E * D2), Nat.mul_pos d10 q0, Nat.lt_of_lt_of_le (lt_mul d11 q1) (by decide), ?_⟩
  exact ((g1.up (E * D2)).mono (by omega)).add (((g3.up D1).cast (Nat.mul_comm _ _)).mono (by omega))
def prs (l : Ln) (ls : List (Rat × Int)) (t : Rat) (i : Int) : Rat := bur l ls i + t * knk l i
theorem press_T {e j : Nat} {t : Rat} (hln : LnOk l) (hl : LdsOk l ls) (i0 : 0 ≤ i) (i1 : i < l.1.length) (ht : TnOk e j t) (he : e ≤ 20) (hj : j ≤ 80) : S_press l ls t i ∧ F_press l ls t i = prs l ls t i ∧ ∃ D, 0 < D ∧ D < 2 ^ 72 ∧ G D (max 29 (j + 14) + 1) (prs l ls t i) := by
  obtain ⟨b1, b2, D1, d10, d11, g1⟩ := burden_T hln hl i0 i1
  obtain ⟨c1, c2, D2, d20, d21, g2⟩ := kink_T hln i0 i1
  obtain ⟨q1, q2, q3⟩ := press_G ht he hj g1 d10 d11 g2 d20 d21
  unfold S_press F_press
  rw [b2, c2]
  exact ⟨⟨b1, c1, q1, q2⟩, rfl, q3⟩
end
/-- a fraction that is drawn as a tension -/
theorem tn_of {a b : Int} {e j : Nat} (a0 : 0 < a) (b0 : 0 < b) (he : b.toNat ≤ 2 ^ e) (hj : a.natAbs < 2 ^ j) : TnOk e j (((a : Int) : Rat) / ((b : Int) : Rat)) := by
  have hb : (0 : Rat) < ((b : Int) : Rat) := Rat.intCast_pos.mpr b0
  have ha : (0 : Rat) < ((a : Int) : Rat) := Rat.intCast_pos.mpr a0
  have eb : ((b.toNat : Nat) : Rat) = (b : Rat) := by
    have : (((b.toNat : Nat) : Int) : Rat) = (b : Rat) := by rw [show ((b.toNat : Nat) : Int) = b from by omega]
    exact this
  have e1 : ((a : Int) : Rat) / ((b : Int) : Rat) * ((b : Int) : Rat) = ((a : Int) : Rat) := by grind
  refine ⟨⟨b.toNat, a, by omega, he, by rw [eb]; exact e1, hj⟩, ?_⟩
  generalize ((a : Int) : Rat) / ((b : Int) : Rat) = q at e1
  by_cases c : 0 < q
  · exact c
  · have := Rat.mul_nonneg (show 0 ≤ -q by grind) (show 0 ≤ ((b : Int) : Rat) by grind)
    grind
theorem tn_two {e j : Nat} {t : Rat} (h : TnOk e j t) : TnOk e (j + 1) (t * (((2 : Int)) : Rat)) := by
  obtain ⟨E, m, h1, h2, h3, h4⟩ := h.ex
  have h5 := h.pos
  have e2 : (((2 : Int)) : Rat) = 2 := rfl
  rw [e2]
  refine ⟨⟨E, 2 * m, h1, h2, ?_, ?_⟩, by grind⟩
  · rw [Rat.intCast_mul, ← h3]
    have e2 : (((2 : Int)) : Rat) = 2 := rfl
    rw [e2]; grind
  · rw [Nat.pow_succ]; omega
theorem div_nlt {x y t : Rat} (h : x ≤ y) (ht : 0 < t) : ¬ y / t < x / t := fun hh => by
  have a := Rat.mul_pos (show 0 < x / t - y / t by grind) ht
  have e1 : x / t * t = x := Rat.div_mul_cancel (ne_of_pos ht)
  have e2 : y / t * t = y := Rat.div_mul_cancel (ne_of_pos ht)
  grind
theorem plain_L {α : Type} {e : α → PyData} {xs : List α} {k : Nat} (h : xs.length ≤ 1000000) (hx : ∀ x ∈ xs, plainD k (e x)) : plainD (k + 1) (encL e xs) := ⟨by rw [List.length_map]; omega, fun y hy => by
  obtain ⟨x, hx1, rfl⟩ := List.mem_map.mp hy
  exact hx x hx1⟩
theorem plain_2 {a b : PyData} {k : Nat} (ha : plainD k a) (hb : plainD k b) : plainD (k + 1) (.tuple [a, b]) := ⟨by simp, fun y hy => by
  simp only [List.mem_cons, List.not_mem_nil, or_false] at hy
  rcases hy with rfl | rfl
  · exact ha
  · exact hb⟩
end Law
end
section
set_option Elab.async false
set_option linter.all false
set_option maxRecDepth 100000
set_option maxHeartbeats 2000000
set_option autoImplicit false
open PySem PV
namespace Law
section
variable {l : Ln} {k : Int} {ls : List (Rat × Int)} {p : Rat}
/-- the span of any place -/
theorem span_ex {D : Nat} (hln : LnOk l) (hp : PlOk l D p) : ∃ k, Sp l k ∧ Wi l k D p ∧ (p < B l k ∨ k + 2 = l.1.length) := by
  have n2 := hln.n2
  have : ∀ j : Nat, j + 2 ≤ l.1.length → (p < B l (j : Int) ∨ j + 2 = l.1.length) → ∃ k, Sp l k ∧ Wi l k D p ∧ (p < B l k ∨ k + 2 = l.1.length) := by
    intro j
    induction j with
    | zero =>
      intro h1 h2
      refine ⟨0, ⟨hln, by omega, by omega⟩, ⟨hp.g, hp.lo, ?_⟩, by rcases h2 with h2 | h2; exact .inl h2; exact .inr (by omega)⟩
      rcases h2 with h2 | h2
      · have h2' : p < B l 0 := h2
        grind
      · have := hp.hi
        rw [show l.1.length - 1 = 1 from by omega] at this
        exact this
    | succ j ih =>
      intro h1 h2
      by_cases c : A l ((j + 1 : Nat) : Int) ≤ p
      · refine ⟨((j + 1 : Nat) : Int), ⟨hln, by omega, by omega⟩, ⟨hp.g, c, ?_⟩, by rcases h2 with h2 | h2; exact .inl h2; exact .inr (by omega)⟩
        rcases h2 with h2 | h2
        · grind
        · have := hp.hi
          rw [show l.1.length - 1 = (((j + 1 : Nat) : Int) + 1).toNat from by omega] at this
          exact this
      · refine ih (by omega) (.inl ?_)
        have e : B l (j : Int) = A l ((j + 1 : Nat) : Int) := by unfold A B; rfl
        rw [e]; grind
  exact this (l.1.length - 2) (by omega) (.inr (by omega))
end
section
variable {l : Ln} {k : Int} {ls : List (Rat × Int)} {p L M R t : Rat} {D : Nat}
theorem mom_b {a b w2 : Rat} {ls : List (Rat × Int)} : mom a b w2 ls b = 0 := by
  have key : ∀ {xs : List (Rat × Int)}, (∀ l ∈ xs, l.1 ≤ b) → sm (xs.map (lm a b b)) = 0 := by
    intro xs
    induction xs with
    | nil => intro _; rfl
    | cons l r ih =>
      intro h
      show lm a b b l + sm (r.map (lm a b b)) = 0
      rw [ih fun x hx => h x (List.mem_cons_of_mem _ hx)]
      unfold lm
      rw [(nf_le (x := l.1) (p := b) (h l (List.mem_cons_self ..))).2]
      rw [Rat.div_def]
      grind
  unfold mom
  rw [key fun l hl => by
    have := (List.mem_filter.mp hl).2
    unfold ins at this
    rw [Bool.and_eq_true, decide_eq_true_eq, decide_eq_true_eq] at this
    grind]
  grind
theorem cho_a : cho l k (A l k) = ((Yv l k.toNat : Int) : Rat) := by unfold cho; grind
theorem cho_b (h : Sp l k) : cho l k (B l k) = ((Yv l (k + 1).toNat : Int) : Rat) := by
  unfold cho slp
  rw [h.bw, Rat.div_mul_cancel (int_ne (by have := h.wd; omega)), Rat.intCast_sub]
  grind
/-- the height by any span that a place lies in -/
theorem height_any {e j : Nat} {d : Nat} (h : Sp l k) (hl : LdsOk l ls) (hD : 0 < D) (hD2 : D < 2 ^ d) (hp : Wi l k D p) (ht : TnOk e j t) (hd : 3 * d + j + e ≤ 120) (hj : d ≤ 54) (hj2 : j ≤ 100) (he2 : e ≤ 90) : S_height l ls t p ∧ F_height l ls t p = cho l k p - mo l ls k p / t := by
  by_cases c : p < B l k ∨ k + 2 = l.1.length
  · obtain ⟨a, b, _⟩ := height_T h hl hD hD2 hp c ht hd hj hj2 he2
    exact ⟨a, b⟩
  · have hk : k + 2 < l.1.length := by have := h.k1; have : ¬ (k + 2 = (l.1.length : Int)) := fun q => c (.inr q); omega
    have h' : Sp l (k + 1) := ⟨h.ln, by have := h.k0; omega, by omega⟩
    have eAB : A l (k + 1) = B l k := rfl
    have ep : p = B l k := by
      have := hp.hi
      have : ¬ p < B l k := fun q => c (.inl q)
      grind
    have hw' : Wi l (k + 1) D p := ⟨hp.g, by rw [eAB, ep]; grind, by have := h'.ab; rw [eAB] at this; grind⟩
    obtain ⟨a, b, _⟩ := height_T h' hl hD hD2 hw' (.inl (by have := h'.ab; rw [eAB] at this; grind)) ht hd hj hj2 he2
    refine ⟨a, ?_⟩
    rw [b, ep]
    have e1 : cho l (k + 1) (B l k) = cho l k (B l k) := by rw [cho_b h, ← eAB, cho_a]
    have e2 : mo l ls (k + 1) (B l k) = 0 := mom_a
    have e3 : mo l ls k (B l k) = 0 := mom_b
    rw [e1, e2, e3]
/-- the rope less its own share -/
def bare (l : Ln) (ls : List (Rat × Int)) (k : Int) (t p : Rat) : Rat := (cho l k p - mo l ls k p / t) - (hw l * (p * p)) / t
def slb (l : Ln) (ls : List (Rat × Int)) (k : Int) (t x y : Rat) : Rat := (bare l ls k t y - bare l ls k t x) / (y - x)
theorem bare_T {e j : Nat} (h : Sp l k) (hl : LdsOk l ls) (hp : Wi l k 120 p) (ht : TnOk e j t) (he : e ≤ 10) (hj : j ≤ 20) : S_law_bare l ls t p ∧ F_law_bare l ls t p = bare l ls k t p := by
  obtain ⟨a1, a2⟩ := height_any (d := 7) h hl (by decide) (by decide) hp ht (by omega) (by decide) (by omega) (by omega)
  have mg := mo_G h hl (by decide) (by decide) hp
  obtain ⟨E', q0, q1, hq⟩ := ten_G mg ht
  have gp := hp.g.mul hp.g
  have gs := (hw_G h.ln).mul gp
  obtain ⟨E2, r0, r1, hr⟩ := ten_G gs ht
  have mdp := MD_pos (D := 120) h (by decide)
  have mdl : MD l k 120 < 2 ^ 37 := MD_lt (d := 7) h (by decide)
  have w := h.ln.w
  have wd := h.wd
  have hE' : E' < 2 ^ 20 := Nat.lt_of_lt_of_le q1 (Nat.pow_le_pow_right (by decide) hj)
  have hE2 : E2 < 2 ^ 20 := Nat.lt_of_lt_of_le r1 (Nat.pow_le_pow_right (by decide) hj)
  have gc : G ((Wd l k).natAbs * 120) 23 (cho l k p) := by
    have nn := hp.near h
    have y0 := h.ln.yb (i := k.toNat) (by have := h.k0; have := h.k1; omega)
    have hy : G 1 22 ((Yv l k.toNat : Int) : Rat) := (G.int y0).mono (by decide)
    exact ((hy.up _).cast (Nat.one_mul _)).add ((slope_T h).2.2.mul nn.1)
  have gh := ((gc.up (MD l k 120 * E')).mono (l := 46) (by decide)).sub (((hq.up ((Wd l k).natAbs * 120)).cast (Nat.mul_comm _ _)).mono (by omega))
  have hz : Sz 200 (cho l k p - mo l ls k p / t) := gh.sz (d := 73) (Nat.mul_pos (Nat.mul_pos (by omega) (by decide)) (Nat.mul_pos mdp q0)) (lt_mul (show (Wd l k).natAbs * 120 < 2 ^ 16 by omega) (lt_mul mdl hE')) (by decide)
  show Ok (S_law_bare l ls t p) (F_law_bare l ls t p) fun x => x = bare l ls k t p
  unfold S_law_bare F_law_bare
  refine ok_g a1 (ok_bnd (fun x => x = cho l k p - mo l ls k p / t) a2 fun told htold => ok_g ⟨by decide, Nat.lt_of_lt_of_le (show l.2.natAbs < 2 ^ 3 by omega) (pow_le_pow2 (by decide)), by decide⟩ (ok_g ⟨hp.g.sz (d := 7) (by decide) (by decide) (by decide), hp.g.sz (d := 7) (by decide) (by decide) (by decide)⟩ (ok_g ⟨(hw_G h.ln).sz (d := 2) (by decide) (by decide) (by decide), gp.sz (d := 14) (by decide) (by decide) (by decide)⟩ (ok_g ⟨gs.sz (d := 15) (by decide) (by decide) (by decide), ht.sz (by omega) (by omega), ne_of_pos ht.pos⟩ (ok_bnd (fun x => x = (hw l * (p * p)) / t) rfl fun sh hsh => ⟨⟨?_, ?_⟩, ?_⟩)))))
  · rw [htold]; exact hz
  · rw [hsh]; exact hr.sz (d := 35) (Nat.mul_pos (by decide) r0) (lt_mul (show 2 * (120 * 120) < 2 ^ 15 by decide) hE2) (by omega)
  · show told - sh = _
    rw [htold, hsh]; rfl
/-- with one bottom for a span -/
theorem bare_G {e j : Nat} (h : Sp l k) (hl : LdsOk l ls) (ht : TnOk e j t) (he : e ≤ 10) (hj : j ≤ 20) : ∃ E, 0 < E ∧ E < 2 ^ 74 ∧ ∀ p, Wi l k 120 p → G E 48 (bare l ls k t p) := by
  obtain ⟨F, m, h1, h2, h3, h4⟩ := ht.ex
  have m0 := top_ne h1 h3 (ne_of_pos ht.pos)
  have mdp := MD_pos (D := 120) h (by decide)
  have mdl : MD l k 120 < 2 ^ 37 := MD_lt (d := 7) h (by decide)
  have wd := h.wd
  have hm : m.natAbs < 2 ^ 20 := Nat.lt_of_lt_of_le h4 (Nat.pow_le_pow_right (by decide) hj)
  refine ⟨((Wd l k).natAbs * 120) * (MD l k 120 * m.natAbs), Nat.mul_pos (Nat.mul_pos (by omega) (by decide)) (Nat.mul_pos mdp (by omega)), Nat.lt_trans (lt_mul (show (Wd l k).natAbs * 120 < 2 ^ 16 by omega) (lt_mul mdl hm)) (by decide), fun p hp => ?_⟩
  have mg := mo_G h hl (by decide) (by decide) hp
  have hq := mg.div h1 h2 h3 (ne_of_pos ht.pos)
  have gs := (hw_G h.ln).mul (hp.g.mul hp.g)
  have hr := gs.div h1 h2 h3 (ne_of_pos ht.pos)
  have y0 := h.ln.yb (i := k.toNat) (by have := h.k0; have := h.k1; omega)
  have hy : G 1 22 ((Yv l k.toNat : Int) : Rat) := (G.int y0).mono (by decide)
  have gc : G ((Wd l k).natAbs * 120) 23 (cho l k p) := ((hy.up _).cast (Nat.one_mul _)).add ((slope_T h).2.2.mul (hp.near h).1)
  have gh := ((gc.up (MD l k 120 * m.natAbs)).mono (l := 46) (by decide)).sub (((hq.up ((Wd l k).natAbs * 120)).cast (Nat.mul_comm _ _)).mono (by omega))
  have dv : 2 * (120 * 120) * m.natAbs ∣ ((Wd l k).natAbs * 120) * (MD l k 120 * m.natAbs) := ⟨((Wd l k).natAbs * 120) * (60 * 60 * (Wd l k).natAbs), by unfold MD; simp only [Nat.mul_comm, Nat.mul_left_comm, Nat.mul_assoc]⟩
  exact gh.sub ((hr.dvd dv).mono (by omega))
theorem slb_T {e j : Nat} {x y : Rat} (h : Sp l k) (hl : LdsOk l ls) (hx : Wi l k 120 x) (hy : Wi l k 120 y) (hxy : x < y) (ht : TnOk e j t) (he : e ≤ 10) (hj : j ≤ 20) : S_law_slope_between l ls t x y ∧ F_law_slope_between l ls t x y = slb l ls k t x y ∧ Sz 200 (slb l ls k t x y) := by
  obtain ⟨a1, a2⟩ := bare_T h hl hx ht he hj
  obtain ⟨b1, b2⟩ := bare_T h hl hy ht he hj
  obtain ⟨E, e0, e1, hG⟩ := bare_G h hl ht he hj
  have gx := hG x hx
  have gy := hG y hy
  have gr := gy.sub gx
  have gd : G 120 9 (y - x) := (hy.g.sub hx.g).val (by have := pw_pos 9; grind) (by have := h.bwp; have := hx.lo; have := hy.hi; grind)
  obtain ⟨m, hm⟩ := gd.n
  have dpos : 0 < y - x := by grind
  have hml : m.natAbs < 2 ^ 17 := by
    have h120 : G 1 7 ((120 : Int) : Rat) := G.int (by decide)
    have := gd.mul h120
    have lo := this.lo
    have hi := this.hi
    have e : (y - x) * ((120 : Int) : Rat) = (m : Rat) := hm
    rw [e] at lo hi
    rw [pwI, ← Rat.intCast_neg] at lo
    rw [pwI] at hi
    have := ratI_lt.mp lo
    have := ratI_lt.mp hi
    omega
  have m0 := top_ne (by decide) hm (ne_of_pos dpos)
  have gq := gr.div (l := 7) (by decide) (by decide) hm (ne_of_pos dpos)
  unfold S_law_slope_between F_law_slope_between
  rw [a2, b2]
  refine ⟨⟨b1, a1, ⟨gy.sz e0 e1 (by decide), gx.sz e0 e1 (by decide)⟩, ⟨hy.g.sz (d := 7) (by decide) (by decide) (by decide), hx.g.sz (d := 7) (by decide) (by decide) (by decide)⟩, gr.sz e0 e1 (by decide), gd.sz (d := 7) (by decide) (by decide) (by decide), ne_of_pos dpos⟩, rfl, gq.sz (d := 91) (Nat.mul_pos e0 (by omega)) (lt_mul e1 hml) (by decide)⟩
/-- between two marks the bare rope is straight -/
theorem bare_line (h : Sp l k) (ht : t ≠ 0) (hLR : L < R) (no : ∀ d ∈ ls, ¬ (L < d.1 ∧ d.1 < R)) (h1 : L ≤ p) (h2 : p ≤ R) : bare l ls k t p * (R - L) = bare l ls k t L * (R - p) + bare l ls k t R * (p - L) := by
  have q := mom_piece (w2 := hw l) h.ab hLR no h1 h2
  have q' : mo l ls k p * (R - L) = mo l ls k L * (R - p) + mo l ls k R * (p - L) + hw l * ((p - L) * (R - p) * (R - L)) := q
  unfold bare cho
  generalize mo l ls k p = mp at *
  generalize mo l ls k L = mL at *
  generalize mo l ls k R = mR at *
  have e1 : mp = (mL * (R - p) + mR * (p - L) + hw l * ((p - L) * (R - p) * (R - L))) / (R - L) := by
    have : R - L ≠ 0 := by grind
    grind
  have hd : R - L ≠ 0 := by grind
  rw [e1]
  grind
theorem slb_half (h : Sp l k) (ht : t ≠ 0) (hLR : L < R) (no : ∀ d ∈ ls, ¬ (L < d.1 ∧ d.1 < R)) : slb l ls k t L ((1 : Rat) / 2 * (L + R)) = slb l ls k t L R ∧ slb l ls k t ((1 : Rat) / 2 * (L + R)) R = slb l ls k t L R := by
  have q := bare_line (p := (1 : Rat) / 2 * (L + R)) h ht hLR no (by grind) (by grind)
  unfold slb
  generalize bare l ls k t ((1 : Rat) / 2 * (L + R)) = bm at *
  generalize bare l ls k t L = bL at *
  generalize bare l ls k t R = bR at *
  have hd : R - L ≠ 0 := by grind
  have e : bm = (bL + bR) / 2 := by grind
  rw [e]
  constructor <;> grind
/-- at a load the moment has a kink -/
theorem lm_kink {a b : Rat} {d : Rat × Int} (hab : a < b) (hLM : L < M) (hMR : M < R) (n1 : ¬ (L < d.1 ∧ d.1 < M)) (n2 : ¬ (M < d.1 ∧ d.1 < R)) : (lm a b R d - lm a b M d) * (M - L) - (lm a b M d - lm a b L d) * (R - M) = -(if d.1 = M then wq d else 0) * ((R - M) * (M - L)) := by
  have hd : b - a ≠ 0 := by grind
  by_cases c : d.1 = M
  · rw [if_pos c]
    unfold lm wq
    rw [(nf_le (x := d.1) (p := R) (by grind)).1, (nf_le (x := d.1) (p := R) (by grind)).2, (nf_le (x := d.1) (p := M) (by grind)).1, (nf_le (x := d.1) (p := M) (by grind)).2, (nf_ge (x := d.1) (p := L) (by grind)).1, (nf_ge (x := d.1) (p := L) (by grind)).2, c]
    grind
  · rw [if_neg c]
    have no : ¬ (L < d.1 ∧ d.1 < R) := fun ⟨x, y⟩ => by
      by_cases z : d.1 < M
      · exact n1 ⟨x, z⟩
      · exact n2 ⟨by grind, y⟩
    have := lm_piece (a := a) (b := b) (p := M) hab (show L < R by grind) no (by grind) (by grind)
    grind
theorem sm_kink {a b : Rat} (hab : a < b) (hLM : L < M) (hMR : M < R) : ∀ {xs : List (Rat × Int)}, (∀ d ∈ xs, ¬ (L < d.1 ∧ d.1 < M) ∧ ¬ (M < d.1 ∧ d.1 < R)) → (sm (xs.map (lm a b R)) - sm (xs.map (lm a b M))) * (M - L) - (sm (xs.map (lm a b M)) - sm (xs.map (lm a b L))) * (R - M) = -(sm ((xs.filter fun d => decide (d.1 = M)).map wq)) * ((R - M) * (M - L))
  | [], _ => by show ((0 : Rat) - 0) * _ - (0 - 0) * _ = -0 * _; grind
  | d :: r, hx => by
    have ih := sm_kink hab hLM hMR (xs := r) fun y hy => hx y (List.mem_cons_of_mem _ hy)
    have q := lm_kink (d := d) hab hLM hMR (hx d (List.mem_cons_self ..)).1 (hx d (List.mem_cons_self ..)).2
    have e : sm (((d :: r).filter fun d => decide (d.1 = M)).map wq) = (if d.1 = M then wq d else 0) + sm ((r.filter fun d => decide (d.1 = M)).map wq) := by
      rw [List.filter_cons]
      by_cases c : d.1 = M
      · rw [decide_eq_true c, if_pos rfl, if_pos c]; rfl
      · rw [decide_eq_false c, if_neg (by decide), if_neg c]; grind
    rw [e]
    show (lm a b R d + sm (r.map (lm a b R)) - (lm a b M d + sm (r.map (lm a b M)))) * (M - L) - (lm a b M d + sm (r.map (lm a b M)) - (lm a b L d + sm (r.map (lm a b L)))) * (R - M) = _
    generalize (if d.1 = M then wq d else 0) = w at *
    grind
theorem ins_iff {a b : Rat} {d : Rat × Int} : ins a b d = true ↔ a < d.1 ∧ d.1 < b := by unfold ins; rw [Bool.and_eq_true, decide_eq_true_eq, decide_eq_true_eq]
theorem slb_kink (h : Sp l k) (ht : t ≠ 0) (hA : A l k ≤ L) (hB : R ≤ B l k) (hLM : L < M) (hMR : M < R) (hx : ∀ d ∈ ls, ¬ (L < d.1 ∧ d.1 < M) ∧ ¬ (M < d.1 ∧ d.1 < R)) : slb l ls k t M R - slb l ls k t L M = sm ((ls.filter fun d => decide (d.1 = M)).map wq) / t := by
  have q := sm_kink (a := A l k) (b := B l k) h.ab hLM hMR (xs := ls.filter (ins (A l k) (B l k))) fun d hd => hx d (List.mem_filter.mp hd).1
  have e : (ls.filter (ins (A l k) (B l k))).filter (fun d => decide (d.1 = M)) = ls.filter fun d => decide (d.1 = M) := by
    rw [List.filter_filter]
    apply List.filter_congr
    intro d _
    by_cases c : d.1 = M
    · have : ins (A l k) (B l k) d = true := ins_iff.mpr ⟨by grind, by grind⟩
      rw [this, decide_eq_true c]; rfl
    · rw [decide_eq_false c]; rfl
  rw [e] at q
  unfold slb bare cho mo mom
  generalize sm ((ls.filter (ins (A l k) (B l k))).map (lm (A l k) (B l k) R)) = mR at *
  generalize sm ((ls.filter (ins (A l k) (B l k))).map (lm (A l k) (B l k) M)) = mM at *
  generalize sm ((ls.filter (ins (A l k) (B l k))).map (lm (A l k) (B l k) L)) = mL at *
  generalize sm ((ls.filter fun d => decide (d.1 = M)).map wq) = w at *
  have d1 : R - M ≠ 0 := by grind
  have d2 : M - L ≠ 0 := by grind
  have e2 : w = -((mR - mM) * (M - L) - (mM - mL) * (R - M)) / ((R - M) * (M - L)) := by
    have : (R - M) * (M - L) ≠ 0 := by
      intro z
      rcases Rat.mul_eq_zero.mp z with z | z
      · exact d1 z
      · exact d2 z
    grind
  rw [e2]
  grind
end
end Law
end
section
set_option Elab.async false
set_option linter.all false
set_option maxRecDepth 100000
set_option maxHeartbeats 2000000
set_option autoImplicit false
open PySem PV
namespace Law
section
variable {l : Ln} {k : Int} {ls : List (Rat × Int)} {p L M R t : Rat} {D : Nat}
theorem spotR {q : Rat} : ∀ {xs : List Rat}, List.Pairwise (fun a b : Rat => a < b) xs → (∀ x ∈ xs.take (xs.filter fun o => decide (o < q)).length, x < q) ∧ ∀ x ∈ xs.drop (xs.filter fun o => decide (o < q)).length, ¬ x < q
  | [], _ => ⟨fun x hx => by simp at hx, fun x hx => by simp at hx⟩
  | y :: r, hp => by
    rw [List.pairwise_cons] at hp
    by_cases c : y < q
    · obtain ⟨i1, i2⟩ := spotR (q := q) hp.2
      rw [List.filter_cons_of_pos (by simp [c]), List.length_cons]
      refine ⟨fun x hx => ?_, fun x hx => i2 x hx⟩
      rw [List.take_succ_cons] at hx
      rcases List.mem_cons.mp hx with rfl | hx
      · exact c
      · exact i1 x hx
    · have e : (y :: r).filter (fun o => decide (o < q)) = [] := List.filter_eq_nil_iff.mpr fun x hx => by
        have : ¬ x < q := by
          rcases List.mem_cons.mp hx with rfl | hx
          · exact c
          · have := hp.1 x hx; grind
        simp [this]
      rw [e]
      refine ⟨fun x hx => by simp at hx, fun x hx => ?_⟩
      rcases List.mem_cons.mp hx with rfl | hx
      · exact c
      · have := hp.1 x hx; grind
structure MsOk (l : Ln) (ls pre : List (Rat × Int)) (ms : List Rat) : Prop where
  s : List.Pairwise (fun a b : Rat => a < b) ms
  p : ∀ x ∈ ms, PlOk l 60 x
  t : ∀ i : Nat, i < l.1.length → ((X l i : Int) : Rat) ∈ ms
  ld : ∀ d ∈ pre, d.1 ∈ ms
  n : ms.length ≤ 12 + pre.length
theorem towers_mem {x : Rat} (h : x ∈ l.1.map fun (t : Int × Int) => ((t.1 : Int) : Rat)) : ∃ i : Nat, i < l.1.length ∧ x = ((X l i : Int) : Rat) := by
  obtain ⟨t, ht, rfl⟩ := List.mem_map.mp h
  obtain ⟨i, hi, e⟩ := List.getElem_of_mem ht
  refine ⟨i, hi, ?_⟩
  unfold X
  rw [List.getD_eq_getElem?_getD, List.getElem?_eq_getElem hi, Option.getD_some, e]
theorem mem_towers {i : Nat} (hi : i < l.1.length) : ((X l i : Int) : Rat) ∈ l.1.map fun (t : Int × Int) => ((t.1 : Int) : Rat) := List.mem_map.mpr ⟨_, gd_mem (d := (0, 0)) hi, rfl⟩
theorem ms_0 (hl : LnOk l) : MsOk l ls [] (l.1.map fun (t : Int × Int) => ((t.1 : Int) : Rat)) := by
  refine ⟨?_, fun x hx => ?_, fun i hi => mem_towers hi, (fun d hd => nomatch hd), by rw [List.length_map]; have := hl.n12; show _ ≤ 12 + 0; omega⟩
  · rw [List.pairwise_map]
    refine List.pairwise_iff_getElem.mpr fun i j hi hj hij => ?_
    have := hl.lt hij hj
    unfold X at this
    rw [List.getD_eq_getElem?_getD, List.getD_eq_getElem?_getD, List.getElem?_eq_getElem hi, List.getElem?_eq_getElem hj] at this
    exact ratI_lt.mpr this
  · obtain ⟨i, hi, rfl⟩ := towers_mem hx
    exact plOk_int hl hi 60
theorem ms_step {pre : List (Rat × Int)} {d : Rat × Int} {ms : List Rat} (hd : PlOk l 60 d.1) (h : MsOk l ls pre ms) : MsOk l ls (pre ++ [d]) (if (!decide (d.1 ∈ ms)) = true then ms.take (ms.filter fun m => decide (m < d.1)).length ++ [d.1] ++ ms.drop (ms.filter fun m => decide (m < d.1)).length else ms) := by
  by_cases c : d.1 ∈ ms
  · rw [decide_eq_true c]
    exact ⟨h.s, h.p, h.t, fun y hy => by
      rcases List.mem_append.mp hy with hy | hy
      · exact h.ld y hy
      · rw [List.mem_singleton] at hy; subst hy; exact c, by rw [List.length_append]; have := h.n; show _ ≤ _; exact Nat.le_trans this (by omega)⟩
  · rw [decide_eq_false c, Bool.not_false, if_pos rfl]
    obtain ⟨s1, s2⟩ := spotR (q := d.1) h.s
    have hln := List.length_filter_le (fun m : Rat => decide (m < d.1)) ms
    generalize (ms.filter fun m => decide (m < d.1)).length = n at *
    have hm : ∀ x ∈ ms.take n ++ [d.1] ++ ms.drop n, x = d.1 ∨ x ∈ ms := fun x hx => by
      rcases List.mem_append.mp hx with hx | hx
      · rcases List.mem_append.mp hx with hx | hx
        · exact .inr (List.mem_of_mem_take hx)
        · exact .inl (List.mem_singleton.mp hx)
      · exact .inr (List.mem_of_mem_drop hx)
    have hm' : ∀ x ∈ ms, x ∈ ms.take n ++ [d.1] ++ ms.drop n := fun x hx => by
      rw [← List.take_append_drop n ms] at hx
      rcases List.mem_append.mp hx with hx | hx
      · exact List.mem_append_left _ (List.mem_append_left _ hx)
      · exact List.mem_append_right _ hx
    refine ⟨List.pairwise_append.mpr ⟨List.pairwise_append.mpr ⟨h.s.sublist (List.take_sublist _ _), List.pairwise_singleton _ _, fun y hy z hz => ?_⟩, h.s.sublist (List.drop_sublist _ _), fun y hy z hz => ?_⟩, fun x hx => ?_, fun i hi => hm' _ (h.t i hi), fun y hy => ?_, ?_⟩
    · rw [List.mem_singleton] at hz; subst hz; exact s1 y hy
    · have a := s2 z hz
      have b : z ≠ d.1 := fun q => c (q ▸ List.mem_of_mem_drop hz)
      rcases List.mem_append.mp hy with hy | hy
      · have := s1 y hy; grind
      · rw [List.mem_singleton] at hy; subst hy; grind
    · rcases hm x hx with rfl | hx
      · exact hd
      · exact h.p x hx
    · rcases List.mem_append.mp hy with hy | hy
      · exact hm' _ (h.ld y hy)
      · rw [List.mem_singleton] at hy; subst hy
        exact List.mem_append_left _ (List.mem_append_right _ (List.mem_singleton.mpr rfl))
    · rw [List.length_append, List.length_append, List.length_take, List.length_drop, List.length_singleton, List.length_append, List.length_singleton]
      have := h.n; omega
theorem gd_lt {xs : List Rat} (h : List.Pairwise (fun a b : Rat => a < b) xs) {i j : Nat} (hij : i < j) (hj : j < xs.length) : xs.getD i 0 < xs.getD j 0 := by
  have := List.pairwise_iff_getElem.mp h i j (by omega) hj hij
  rw [List.getD_eq_getElem?_getD, List.getD_eq_getElem?_getD, List.getElem?_eq_getElem hj, List.getElem?_eq_getElem (by omega)]
  exact this
/-- what is in the list and greater than one is at least the next -/
theorem gd_next {xs : List Rat} (h : List.Pairwise (fun a b : Rat => a < b) xs) {i : Nat} (hi : i + 1 < xs.length) {x : Rat} (hx : x ∈ xs) (hlt : xs.getD i 0 < x) : xs.getD (i + 1) 0 ≤ x := by
  obtain ⟨j, hj, e⟩ := List.getElem_of_mem hx
  have e' : xs.getD j 0 = x := by rw [List.getD_eq_getElem?_getD, List.getElem?_eq_getElem hj]; exact e
  by_cases c : j ≤ i
  · by_cases c2 : j = i
    · subst c2; rw [e'] at hlt; grind
    · have := gd_lt h (show j < i by omega) (by omega)
      rw [e'] at this; grind
  · by_cases c2 : j = i + 1
    · subst c2; rw [e']; grind
    · have := gd_lt h (show i + 1 < j by omega) hj
      rw [e'] at this; grind
/-- the span of two neighbours -/
theorem nb_span (hl : LnOk l) {ms : List Rat} {pre : List (Rat × Int)} (h : MsOk l ls pre ms) {i : Nat} (hi : i + 1 < ms.length) : ∃ k, Sp l k ∧ Wi l k 60 (ms.getD i 0) ∧ Wi l k 60 (ms.getD (i + 1) 0) ∧ ms.getD i 0 < ms.getD (i + 1) 0 ∧ B l k ∈ ms := by
  have pL := h.p _ (gd_mem (d := 0) (show i < ms.length by omega))
  have pR := h.p _ (gd_mem (d := 0) hi)
  have lt := gd_lt h.s (show i < i + 1 by omega) hi
  obtain ⟨k, hk, hw, hb⟩ := span_ex hl pL
  have k0 := hk.k0
  have k1 := hk.k1
  have hB : B l k ∈ ms := h.t (k + 1).toNat (by omega)
  have hlt : ms.getD i 0 < B l k := by
    rcases hb with hb | hb
    · exact hb
    · have := pR.hi
      have e : B l k = ((X l (l.1.length - 1) : Int) : Rat) := by unfold B; rw [show (k + 1).toNat = l.1.length - 1 from by omega]
      rw [e]; grind
  have := gd_next h.s hi hB hlt
  exact ⟨k, hk, hw, ⟨pR.g, by have := hw.lo; grind, this⟩, lt, hB⟩
theorem mid_wi {x y : Rat} (h : Sp l k) (hx : Wi l k 60 x) (hy : Wi l k 60 y) : Wi l k 120 ((1 : Rat) / 2 * (x + y)) := by
  have g2 : G 2 1 ((1 : Rat) / 2) := (G.int (k := 1) (i := 1) (by decide)).divI (m := 2) (by decide)
  have g := g2.mul (hx.g.add hy.g)
  have a := hx.lo
  have b := hx.hi
  have c := hy.lo
  have d := hy.hi
  have e1 := (h.a 1).g.lo
  have e2 := (h.b 1).g.hi
  exact ⟨⟨g.n, by grind, by grind⟩, by grind, by grind⟩
theorem middle_T {x y : Rat} (hx : Wi l k 60 x) (hy : Wi l k 60 y) : S_law_middle x y ∧ F_law_middle x y = (1 : Rat) / 2 * (x + y) := by
  have g2 : G 2 1 ((1 : Rat) / 2) := (G.int (k := 1) (i := 1) (by decide)).divI (m := 2) (by decide)
  exact ⟨⟨⟨hx.g.sz (d := 6) (by decide) (by decide) (by decide), hy.g.sz (d := 6) (by decide) (by decide) (by decide)⟩, g2.sz (d := 2) (by decide) (by decide) (by decide), (hx.g.add hy.g).sz (d := 6) (by decide) (by decide) (by decide)⟩, rfl⟩
theorem sum_wq : ∀ xs : List (Rat × Int), (((xs.map fun d => d.2).sum : Int) : Rat) = sm (xs.map wq)
  | [] => rfl
  | d :: r => by
    rw [List.map_cons, List.sum_cons, Rat.intCast_add, sum_wq r]; rfl
/-! a load in two -/
def splitQ (ls : List (Rat × Int)) : List (Rat × Int) := ls.flatMap fun d => if 1 < d.2 then [(d.1, 1), (d.1, d.2 - 1)] else [(d.1, d.2)]
theorem split_sm {c : Rat × Int → Bool} {f : Rat × Int → Rat} (hc : ∀ d : Rat × Int, ∀ w : Int, c (d.1, w) = c d) (hf : ∀ (x : Rat) (w : Int), f (x, 1) + f (x, w - 1) = f (x, w)) : ∀ ls : List (Rat × Int), sm (((splitQ ls).filter c).map f) = sm ((ls.filter c).map f)
  | [] => rfl
  | d :: r => by
    have ih := split_sm hc hf r
    have e : splitQ (d :: r) = (if 1 < d.2 then [(d.1, 1), (d.1, d.2 - 1)] else [(d.1, d.2)]) ++ splitQ r := rfl
    rw [e, List.filter_append, List.map_append, sm_app, ih, List.filter_cons]
    by_cases q : 1 < d.2
    · rw [if_pos q, List.filter_cons, List.filter_cons, hc d 1, hc d (d.2 - 1)]
      cases c d with
      | true =>
        show (f (d.1, 1) + (f (d.1, d.2 - 1) + 0)) + _ = f d + _
        have := hf d.1 d.2
        have e2 : f (d.1, d.2) = f d := rfl
        grind
      | false =>
        show (0 : Rat) + _ = _
        grind
    · rw [if_neg q]
      have e2 : (d.1, d.2) = d := rfl
      rw [e2, List.filter_cons]
      cases c d with
      | true =>
        show (f d + 0) + _ = f d + _
        grind
      | false =>
        show (0 : Rat) + _ = _
        grind
theorem split_ok (hl : LdsOk l ls) (h7 : ls.length ≤ 8) : LdsOk l (splitQ ls) := by
  have hm : ∀ x ∈ splitQ ls, ∃ d ∈ ls, x.1 = d.1 ∧ 1 ≤ x.2 ∧ x.2 < 8192 := fun x hx => by
    obtain ⟨d, hd, hx⟩ := List.mem_flatMap.mp hx
    have w := hl.w d hd
    by_cases q : 1 < d.2
    · rw [if_pos q] at hx
      simp only [List.mem_cons, List.not_mem_nil, or_false] at hx
      rcases hx with rfl | rfl
      · exact ⟨d, hd, rfl, by show (1 : Int) ≤ 1; omega, by show (1 : Int) < 8192; omega⟩
      · exact ⟨d, hd, rfl, by show 1 ≤ d.2 - 1; omega, by show d.2 - 1 < 8192; omega⟩
    · rw [if_neg q, List.mem_singleton] at hx
      subst hx
      exact ⟨d, hd, rfl, w.1, w.2⟩
  have hn : ∀ xs : List (Rat × Int), (splitQ xs).length ≤ 2 * xs.length := fun xs => by
    induction xs with
    | nil => exact Nat.le_refl _
    | cons d r ih =>
      have e : splitQ (d :: r) = (if 1 < d.2 then [(d.1, 1), (d.1, d.2 - 1)] else [(d.1, d.2)]) ++ splitQ r := rfl
      rw [e, List.length_append, List.length_cons]
      split <;> simp only [List.length_cons, List.length_nil] <;> omega
  have hs : ∀ xs : List (Rat × Int), List.Pairwise (fun a b : Rat × Int => a.1 ≤ b.1) xs → List.Pairwise (fun a b : Rat × Int => a.1 ≤ b.1) (splitQ xs) ∧ ∀ x ∈ splitQ xs, ∃ d ∈ xs, x.1 = d.1 := fun xs => by
    induction xs with
    | nil => intro _; exact ⟨.nil, fun x hx => nomatch hx⟩
    | cons d r ih =>
      intro hp
      rw [List.pairwise_cons] at hp
      obtain ⟨i1, i2⟩ := ih hp.2
      have e : splitQ (d :: r) = (if 1 < d.2 then [(d.1, 1), (d.1, d.2 - 1)] else [(d.1, d.2)]) ++ splitQ r := rfl
      have hd : (∀ x ∈ (if 1 < d.2 then [(d.1, 1), (d.1, d.2 - 1)] else [(d.1, d.2)] : List (Rat × Int)), x.1 = d.1) ∧ List.Pairwise (fun a b : Rat × Int => a.1 ≤ b.1) (if 1 < d.2 then [(d.1, 1), (d.1, d.2 - 1)] else [(d.1, d.2)] : List (Rat × Int)) := by
        split
        · refine ⟨fun x hx => ?_, List.pairwise_cons.mpr ⟨fun y hy => ?_, List.pairwise_singleton _ _⟩⟩
          · simp only [List.mem_cons, List.not_mem_nil, or_false] at hx
            rcases hx with rfl | rfl <;> rfl
          · rw [List.mem_singleton] at hy; subst hy; exact Rat.le_refl
        · exact ⟨fun x hx => by rw [List.mem_singleton] at hx; subst hx; rfl, List.pairwise_singleton _ _⟩
      rw [e]
      refine ⟨List.pairwise_append.mpr ⟨hd.2, i1, fun y hy z hz => ?_⟩, fun x hx => ?_⟩
      · obtain ⟨w, hw, e2⟩ := i2 z hz
        rw [hd.1 y hy, e2]
        exact hp.1 w hw
      · rcases List.mem_append.mp hx with hx | hx
        · exact ⟨d, List.mem_cons_self .., hd.1 x hx⟩
        · obtain ⟨w, hw, e2⟩ := i2 x hx
          exact ⟨w, List.mem_cons_of_mem _ hw, e2⟩
  refine ⟨by have := hn ls; omega, fun x hx => ?_, fun x hx => ?_, (hs ls hl.s).1⟩
  · obtain ⟨d, hd, e, _⟩ := hm x hx
    rw [e]; exact hl.p d hd
  · obtain ⟨d, hd, e, w⟩ := hm x hx
    exact w
theorem wq_two (w : Int) : ((1 : Int) : Rat) + ((w - 1 : Int) : Rat) = ((w : Int) : Rat) := by rw [Rat.intCast_sub]; grind
theorem split_mo : mo l (splitQ ls) k p = mo l ls k p := by
  unfold mo mom
  rw [split_sm (c := ins (A l k) (B l k)) (f := lm (A l k) (B l k) p) (fun d w => rfl) fun x w => by
    have := wq_two w
    unfold lm
    show ((1 : Int) : Rat) * _ / _ + ((w - 1 : Int) : Rat) * _ / _ = ((w : Int) : Rat) * _ / _
    rw [← this]
    rw [Rat.div_def, Rat.div_def, Rat.div_def]
    grind]
theorem split_bur {i : Int} : bur l (splitQ ls) i = bur l ls i := by
  have a : ∀ k, ahd l (splitQ ls) k = ahd l ls k := fun k => by
    unfold ahd
    rw [split_sm (c := ins (A l k) (B l k)) (f := fun d => (wq d * (d.1 - A l k)) / (B l k - A l k)) (fun d w => rfl) fun x w => by
      have := wq_two w
      show ((1 : Int) : Rat) * _ / _ + ((w - 1 : Int) : Rat) * _ / _ = ((w : Int) : Rat) * _ / _
      rw [← this]
      rw [Rat.div_def, Rat.div_def, Rat.div_def]
      grind]
  have b : ∀ k, bhd l (splitQ ls) k = bhd l ls k := fun k => by
    unfold bhd
    rw [split_sm (c := ins (A l k) (B l k)) (f := fun d => (wq d * (B l k - d.1)) / (B l k - A l k)) (fun d w => rfl) fun x w => by
      have := wq_two w
      show ((1 : Int) : Rat) * _ / _ + ((w - 1 : Int) : Rat) * _ / _ = ((w : Int) : Rat) * _ / _
      rw [← this]
      rw [Rat.div_def, Rat.div_def, Rat.div_def]
      grind]
  have c : atw l (splitQ ls) i = atw l ls i := by
    unfold atw
    exact split_sm (c := fun d => decide (d.1 = A l i)) (f := wq) (fun d w => rfl) (fun x w => wq_two w) ls
  unfold bur
  rw [a, b, c]
end
end Law
end
section
set_option Elab.async false
set_option linter.all false
set_option maxRecDepth 100000
set_option maxHeartbeats 2000000
set_option autoImplicit false
open PySem PV
namespace Law
theorem zdiv (x : Rat) : (0 : Rat) / x = 0 := by rw [Rat.div_def, Rat.zero_mul]
theorem rat1 : (((1 : Int)) : Rat) = 1 := rfl
/-- a fold that puts in -/
theorem split_fold : ∀ (xs acc : List (Rat × Int)), xs.foldl (fun (split : (List (Rat × Int))) (d : (Rat × Int)) =>
  (if (decide (1 < d.2)) = true then (bnd (split ++ ([(d.1, 1), (d.1, (d.2 - 1))] : List (Rat × Int))) fun (split2 : (List (Rat × Int))) =>
  split2)
  else (split ++ [(d.1, d.2)]))) acc = acc ++ splitQ xs
  | [], acc => by show acc = acc ++ []; rw [List.append_nil]
  | d :: r, acc => by
    rw [List.foldl_cons, split_fold r]
    have e : splitQ (d :: r) = (if 1 < d.2 then [(d.1, 1), (d.1, d.2 - 1)] else [(d.1, d.2)]) ++ splitQ r := rfl
    rw [e, ← List.append_assoc]
    congr 1
    by_cases c : 1 < d.2
    · rw [decide_eq_true c, if_pos rfl, if_pos c]; rfl
    · rw [decide_eq_false c, if_neg (by decide), if_neg c]
theorem law_ok (ns : List Int) : Ok (S_law ns) (F_law ns) fun b => b = true := by
  unfold S_law F_law
  have lT := line_T ns (at_ := 0) (most := 8) (by omega) (by omega) (by omega)
  refine ok_g lT.1 (ok_bnd LnOk lT.2 fun l hl => ?_)
  have ldT := loads_T ns (at_ := 1) (most := 7) hl (by omega) (by omega) (by omega)
  obtain ⟨d1, d2, d3⟩ := numbers_T (cell := F_law_cell ns 2) (c := 8) (m := 5040) (by omega) (by omega) (by omega) (by omega)
  refine ok_g ldT.1 (ok_bnd (fun ls => LdsOk l ls ∧ (ls.length : Int) ≤ 7) ldT.2 fun ls ⟨hls, hl7⟩ => ok_g (cell_T ns (by omega)) (ok_g d1 (ok_bnd (fun ds => ds.length = 8 ∧ ∀ x ∈ ds, 0 ≤ x ∧ x < 5040) ⟨by omega, d3⟩ fun ds ⟨l1, dr⟩ => ?_)))
  have p := pk dr
  have p0 := p 0 (by omega)
  have p1 := p 1 (by omega)
  have p2 := p 2 (by omega)
  have p3 := p 3 (by omega)
  have n2 := hl.n2
  have n12 := hl.n12
  have n16 := hls.n
  have tT : TnOk 5 13 ((((1 + ds.getD 0 0 : Int) : Int) : Rat) / (((1 + ds.getD 1 0 % 30 : Int) : Int) : Rat)) := tn_of (by omega) (by omega) (by omega) (by omega)
  refine ok_g (by omega) (ok_g (by omega) (ok_g ⟨by omega, Nat.lt_trans (show (1 + ds.getD 0 0).natAbs < 2 ^ 13 by omega) (by decide), Nat.lt_trans (show (1 + ds.getD 1 0 % 30).natAbs < 2 ^ 13 by omega) (by decide)⟩ (ok_bnd (TnOk 5 13) tT fun t ht => ok_walk (fun tw htw => ?_) (ok_g (sz_ _ (by omega)) (ok_bnd (fun ms => ms = l.1.map fun (t : Int × Int) => ((t.1 : Int) : Rat)) rfl fun ms0 hms0 => ok_for (MsOk l ls ls) (LpS_pre (fun pre ms => MsOk l ls pre ms) (by rw [hms0]; exact ms_0 hl) fun pre d post ms e hms => ?_) fun ms hms => ok_bnd (fun ms => ms = l.1.map fun (t : Int × Int) => ((t.1 : Int) : Rat)) rfl fun tws htws => ok_g (r62_s (by omega) (by have := hms.n; omega)) (ok_walk (fun k hk => ?_) ?_))))))
  · obtain ⟨i, hi, e⟩ := List.getElem_of_mem htw
    have eX : tw.1 = X l i := by unfold X; rw [List.getD_eq_getElem?_getD, List.getElem?_eq_getElem hi, Option.getD_some, e]
    have eY : tw.2 = Yv l i := by unfold Yv; rw [List.getD_eq_getElem?_getD, List.getElem?_eq_getElem hi, Option.getD_some, e]
    have key : S_height l ls t ((X l i : Int) : Rat) ∧ F_height l ls t ((X l i : Int) : Rat) = ((Yv l i : Int) : Rat) := by
      by_cases c : i + 1 < l.1.length
      · have h : Sp l (i : Int) := ⟨hl, by omega, by omega⟩
        have hw : Wi l (i : Int) 60 (A l (i : Int)) := ⟨(h.a 60).g, by grind, by have := h.ab; grind⟩
        obtain ⟨a, b⟩ := height_any (d := 6) h hls (by decide) (by decide) hw ht (by decide) (by decide) (by decide) (by decide)
        refine ⟨a, ?_⟩
        have e2 : mo l ls (i : Int) (A l (i : Int)) = 0 := mom_a
        refine b.trans ?_
        rw [cho_a, e2, Int.toNat_natCast, zdiv]
        grind
      · have h : Sp l ((i : Int) - 1) := ⟨hl, by omega, by omega⟩
        have eB : B l ((i : Int) - 1) = ((X l i : Int) : Rat) := by unfold B; rw [show ((i : Int) - 1 + 1).toNat = i from by omega]
        have hw : Wi l ((i : Int) - 1) 60 (B l ((i : Int) - 1)) := ⟨(h.b 60).g, by have := h.ab; grind, by grind⟩
        obtain ⟨a, b⟩ := height_any (d := 6) h hls (by decide) (by decide) hw ht (by decide) (by decide) (by decide) (by decide)
        have e2 : mo l ls ((i : Int) - 1) (B l ((i : Int) - 1)) = 0 := mom_b
        rw [e2, cho_b h, eB, show ((i : Int) - 1 + 1).toNat = i from by omega] at b
        rw [eB] at a
        refine ⟨a, b.trans ?_⟩
        rw [zdiv]; grind
    refine ⟨by rw [eX]; exact key.1, ?_⟩
    show (if (!decide (F_height l ls t ((tw.1 : Int) : Rat) = ((tw.2 : Int) : Rat))) = true then Stp.rt false else Stp.nx ()) = _
    rw [eX, eY, rfl_eq key.2]; rfl
  · have hd : d ∈ ls := by rw [e]; simp
    have hst := ms_step (hls.p d hd) hms
    have hln := List.length_filter_le (fun m : Rat => decide (m < d.1)) ms
    have hn := hms.n
    have hpre : pre.length ≤ 16 := by
      have : ls.length = pre.length + (post.length + 1) := by rw [e, List.length_append, List.length_cons]
      omega
    have ev : (bnd (((ms.filter fun (mark : Rat) => (decide (mark < d.1))).map fun (mark : Rat) => mark).length : Int) fun (spot : Int) =>
  (if (!decide (d.1 ∈ ms)) = true then (bnd ((((ms.drop 0).take ((spot).toNat - 0)) ++ ([d.1] : List Rat)) ++ (ms.drop (spot).toNat)) fun (marks3 : (List Rat)) =>
  marks3)
  else ms)) = (if (!decide (d.1 ∈ ms)) = true then ms.take (ms.filter fun m => decide (m < d.1)).length ++ [d.1] ++ ms.drop (ms.filter fun m => decide (m < d.1)).length else ms) := by
      rw [map_id_]
      show (if (!decide (d.1 ∈ ms)) = true then ((ms.drop 0).take ((((ms.filter fun m => decide (m < d.1)).length : Int)).toNat - 0)) ++ [d.1] ++ (ms.drop ((((ms.filter fun m => decide (m < d.1)).length : Int)).toNat)) else ms) = _
      rw [Int.toNat_natCast, List.drop_zero, Nat.sub_zero]
    refine ⟨⟨sz_ _ (by omega), fun m hm => ⟨(hms.p m hm).sz (by decide) (by decide), (hls.p d hd).sz (by decide) (by decide)⟩, ?_⟩, ?_⟩
    · rw [map_id_]
      refine fun _ => ⟨by omega, sz_ _ (by rw [List.length_take, List.length_drop]; show _ + 1 ≤ _; omega), sz_ _ (by rw [List.length_append, List.length_take, List.length_drop, List.length_drop]; show _ + 1 + _ ≤ _; omega)⟩
    · show MsOk l ls (pre ++ [d]) _
      rw [ev]; exact hst
  · obtain ⟨k0, k1⟩ := rngI_mem.mp hk
    obtain ⟨i, rfl⟩ : ∃ i : Nat, k = (i : Int) + 1 := ⟨(k - 1).toNat, by omega⟩
    have i1 : i + 1 < ms.length := by omega
    obtain ⟨j, hj, wL, wR, lt, hB⟩ := nb_span hl hms i1
    have t1 : ((i : Int) + 1 - 1).toNat = i := by omega
    have t2 : ((i : Int) + 1).toNat = i + 1 := by omega
    have no : ∀ d ∈ ls, ¬ (ms.getD i 0 < d.1 ∧ d.1 < ms.getD (i + 1) 0) := fun d hd ⟨a, b⟩ => by
      have := gd_next hms.s i1 (hms.ld d hd) a
      grind
    have tpos := ht.pos
    have t0 := ne_of_pos tpos
    obtain ⟨m1, m2⟩ := middle_T wL wR
    have wM := mid_wi hj wL wR
    have wL' := wL.dvd (show 60 ∣ 120 by decide)
    have wR' := wR.dvd (show 60 ∣ 120 by decide)
    have ltM : ms.getD i 0 < (1 : Rat) / 2 * (ms.getD i 0 + ms.getD (i + 1) 0) ∧ (1 : Rat) / 2 * (ms.getD i 0 + ms.getD (i + 1) 0) < ms.getD (i + 1) 0 := by constructor <;> grind
    obtain ⟨a1, a2, a3⟩ := slb_T hj hls wL' wM ltM.1 ht (by decide) (by decide)
    obtain ⟨b1, b2, b3⟩ := slb_T hj hls wM wR' ltM.2 ht (by decide) (by decide)
    obtain ⟨h1, h2⟩ := slb_half (ls := ls) hj t0 lt no
    rw [t1, t2]
    show Ok _ _ fun r => r = Stp.nx ()
    refine ok_g ⟨by omega, by omega⟩ (ok_g ⟨by omega, by omega⟩ (ok_g m1 (ok_bnd (fun x => x = (1 : Rat) / 2 * (ms.getD i 0 + ms.getD (i + 1) 0)) m2 fun mid hmid => ?_)))
    subst hmid
    refine ok_g a1 (ok_bnd (fun x => x = slb l ls j t (ms.getD i 0) (ms.getD (i + 1) 0)) (a2.trans h1) fun near hnear => ok_g b1 (ok_no (rfl_eq (by rw [hnear, b2, h2])) (ok_ifT (fun c => ?_) (fun _ => rfl))))
    rw [Bool.and_eq_true, decide_eq_true_eq, Bool.not_eq_true', decide_eq_false_iff_not] at c
    obtain ⟨c1, c2⟩ := c
    have i2 : i + 1 + 1 < ms.length := by omega
    obtain ⟨j2, hj2, wL2, wR2, lt2, hB2⟩ := nb_span hl hms i2
    have hRB : ms.getD (i + 1) 0 < B l j := by
      have hne : ms.getD (i + 1) 0 ≠ B l j := fun q => c2 (by
        rw [q, htws]
        exact mem_towers (by have := hj.k1; have := hj.k0; omega))
      have := wR.hi
      grind
    have hR2 := gd_next hms.s i2 hB hRB
    have t3 : ((i : Int) + 1 + 1).toNat = i + 1 + 1 := by omega
    have wR2' : Wi l j 60 (ms.getD (i + 1 + 1) 0) := ⟨wR2.g, by have := wR.lo; grind, hR2⟩
    have no2 : ∀ d ∈ ls, ¬ (ms.getD (i + 1) 0 < d.1 ∧ d.1 < ms.getD (i + 1 + 1) 0) := fun d hd ⟨a, b⟩ => by
      have := gd_next hms.s i2 (hms.ld d hd) a
      grind
    obtain ⟨mm1, mm2⟩ := middle_T wR wR2'
    have wM2 := mid_wi hj wR wR2'
    have ltM2 : ms.getD (i + 1) 0 < (1 : Rat) / 2 * (ms.getD (i + 1) 0 + ms.getD (i + 1 + 1) 0) := by grind
    obtain ⟨e1, e2, e3⟩ := slb_T hj hls wR' wM2 ltM2 ht (by decide) (by decide)
    obtain ⟨g1, g2⟩ := slb_half (ls := ls) hj t0 lt2 no2
    have kk := slb_kink hj t0 wL.lo hR2 lt lt2 fun d hd => ⟨no d hd, no2 d hd⟩
    have gW := atw_G hls (c := fun d => decide (d.1 = ms.getD (i + 1) 0))
    have hsum := sum_wq (ls.filter fun d => decide (d.1 = ms.getD (i + 1) 0))
    rw [t3]
    refine ok_g ⟨by omega, by omega⟩ (ok_g mm1 ?_)
    rw [mm2]
    refine ok_g e1 (ok_bnd (fun x => x = slb l ls j t (ms.getD (i + 1) 0) (ms.getD (i + 1 + 1) 0)) (e2.trans g1) fun far hfar => ok_g (sz_ _ (by omega)) (ok_bnd (fun w : Int => ((w : Int) : Rat) = sm ((ls.filter fun d => decide (d.1 = ms.getD (i + 1) 0)).map wq)) hsum fun w hw => ⟨⟨⟨?_, ?_⟩, ?_⟩, ?_⟩))
    · rw [hfar, ← g1]; exact e3
    · rw [hnear, ← h1]; exact a3
    · exact ⟨by show Sz 200 ((w : Int) : Rat); rw [hw]; exact gW.sz (d := 1) (by decide) (by decide) (by decide), ht.sz (by decide) (by decide), t0⟩
    · show (if (!decide (far - near = ((w : Int) : Rat) / t)) = true then Stp.rt false else Stp.nx ()) = _
      rw [rfl_eq (by rw [hfar, hnear, hw]; exact kk)]; rfl
  have hsp := split_ok hls (by omega)
  have pT := place_T hl p2.1 p3.1
  refine ok_for (fun sp => sp = splitQ ls) ⟨(LpS_pre (fun pre sp => sp = splitQ pre) rfl fun pre d post s e hs => ?_).1, split_fold ls []⟩ fun sp hspq => ?_
  · have hd : d ∈ ls := by rw [e]; simp
    have hsl : s.length ≤ 100 := by
      have hn : ∀ xs : List (Rat × Int), (splitQ xs).length ≤ 2 * xs.length := fun xs => by
        induction xs with
        | nil => exact Nat.le_refl _
        | cons d r ih =>
          have e : splitQ (d :: r) = (if 1 < d.2 then [(d.1, 1), (d.1, d.2 - 1)] else [(d.1, d.2)]) ++ splitQ r := rfl
          rw [e, List.length_append, List.length_cons]
          split <;> simp only [List.length_cons, List.length_nil] <;> omega
      have := hn pre
      have : ls.length = pre.length + (post.length + 1) := by rw [e, List.length_append, List.length_cons]
      rw [hs]; omega
    refine ⟨⟨fun _ => sz_ _ (by show s.length + 2 ≤ _; omega), fun _ => szl_ _ (by omega)⟩, ?_⟩
    have e1 := split_fold [d] s
    rw [List.foldl_cons, List.foldl_nil] at e1
    refine e1.trans ?_
    rw [hs]
    unfold splitQ
    rw [List.flatMap_append]
  rw [← hspq] at hsp
  refine ok_g (by omega) (ok_g (by omega) (ok_g pT.1 (ok_bnd (PlOk l 60) pT.2 fun q hq => ?_)))
  obtain ⟨k, h, hw, hk⟩ := span_ex hl hq
  have smo : mo l sp k q = mo l ls k q := by rw [hspq]; exact split_mo
  obtain ⟨f1, f2⟩ := moment_T h hls (by decide) (by decide) hw hk
  obtain ⟨s1, s2⟩ := moment_T h hsp (by decide) (by decide) hw hk
  obtain ⟨g1, g2, E, g3, g4, g5⟩ := height_T (D := 60) (d := 6) h hls (by decide) (by decide) hw hk ht (by decide) (by decide) (by decide) (by decide)
  obtain ⟨h1, h2, E2, h3, h4, h5⟩ := height_T (D := 60) (d := 6) h hsp (by decide) (by decide) hw hk ht (by decide) (by decide) (by decide) (by decide)
  have mg := mo_G h hls (by decide) (by decide) hw
  have mdp := MD_pos (D := 60) h (by decide)
  have mdl : MD l k 60 < 2 ^ 35 := MD_lt (d := 6) h (by decide)
  have hc0 : ((!decide (F_moment l sp q = F_moment l ls q)) || (!decide (F_height l sp t q = F_height l ls t q))) = false := by
    rw [decide_eq_true (by rw [f2, s2, smo]), decide_eq_true (by rw [g2, h2, smo])]; rfl
  -- one load alone
  have hl0 : LnOk (l.1, 0) := ⟨hl.n2, hl.n12, hl.inc, hl.bx, by show (0 : Int) ≤ 0 ∧ (0 : Int) < 8; omega⟩
  have h0 : Sp (l.1, 0) k := ⟨hl0, h.k0, h.k1⟩
  have w0 : Wi (l.1, 0) k 60 q := ⟨hw.g, hw.lo, hw.hi⟩
  have one : ∀ d ∈ ls, S_moment (l.1, 0) [d] q ∧ F_moment (l.1, 0) [d] q = sm (([d].filter (ins (A l k) (B l k))).map (lm (A l k) (B l k) q)) := fun d hd => by
    have hd1 : LdsOk (l.1, 0) [d] := ⟨by simp, fun x hx => by rw [List.mem_singleton] at hx; subst hx; have := hls.p x hd; exact ⟨this.g, this.lo, this.hi⟩, fun x hx => by rw [List.mem_singleton] at hx; subst hx; exact hls.w x hd, List.pairwise_singleton _ _⟩
    obtain ⟨a, b⟩ := moment_T h0 hd1 (by decide) (by decide) w0 hk
    refine ⟨a, b.trans ?_⟩
    show sm (([d].filter (ins (A l k) (B l k))).map (lm (A l k) (B l k) q)) + (((0 : Int) : Rat) / 2) * _ = _
    have e0 : (((0 : Int) : Rat) / 2) = 0 := zdiv _
    rw [e0]; grind
  have hnil : LdsOk l [] := ⟨Nat.zero_le _, (fun d hd => nomatch hd), (fun d hd => nomatch hd), .nil⟩
  obtain ⟨z1, z2⟩ := moment_T h hnil (by decide) (by decide) hw hk
  have allG : ∀ pre : List (Rat × Int), (∀ y ∈ pre, y ∈ ls) → pre.length ≤ 16 → G (MD l k 60) 35 (sm ((pre.filter (ins (A l k) (B l k))).map (lm (A l k) (B l k) q))) := fun pre hp hn => G.sum (k := 31) (j := 4) (fun x hx => by
    obtain ⟨d, hd, rfl⟩ := List.mem_map.mp hx
    obtain ⟨e1, e2⟩ := List.mem_filter.mp hd
    exact (lm_T h (by decide) (by decide) hw (ins_wi hls (hp d e1) e2) (hls.w d (hp d e1))).2.2) (by
      rw [List.length_map]; exact Nat.le_trans (List.length_filter_le _ _) hn)
  refine ok_g s1 (ok_g f1 (ok_g (fun _ => ⟨h1, g1⟩) (ok_no hc0 (ok_bnd (fun z => z = (((0 : Int)) : Rat)) rfl fun z hz => ok_for (fun a => a = sm ((ls.filter (ins (A l k) (B l k))).map (lm (A l k) (B l k) q))) (LpS_pre (fun pre s => s = sm ((pre.filter (ins (A l k) (B l k))).map (lm (A l k) (B l k) q))) hz fun pre d post s e hs => ?_) fun al hal => ok_g z1 (ok_g ⟨?_, ?_⟩ (ok_no ?_ (ok_g (r62_s (by omega) (by rw [htws, List.length_map]; omega)) (ok_walk0 (fun i hi => ?_) rfl))))))))
  · have hd : d ∈ ls := by rw [e]; simp
    obtain ⟨o1, o2⟩ := one d hd
    have hl' : ls.length = pre.length + (post.length + 1) := by rw [e, List.length_append, List.length_cons]
    refine ⟨⟨o1, ?_, ?_⟩, ?_⟩
    · rw [hs]; exact (allG pre (fun y hy => by rw [e]; exact List.mem_append_left _ hy) (by omega)).sz mdp mdl (by decide)
    · rw [o2]; exact (allG [d] (fun y hy => by rw [List.mem_singleton] at hy; subst hy; exact hd) (by simp)).sz mdp mdl (by decide)
    · show s + F_moment (l.1, 0) [d] q = _
      rw [o2, hs, List.filter_append, List.map_append, sm_app]
  · rw [hal]; exact (allG ls (fun y hy => hy) hls.n).sz mdp mdl (by decide)
  · rw [z2]; exact (mo_G h hnil (by decide) (by decide) hw).sz mdp mdl (by decide)
  · rw [hal, z2, f2]
    have e : mo l ls k q = sm ((ls.filter (ins (A l k) (B l k))).map (lm (A l k) (B l k) q)) + mo l [] k q := by
      unfold mo mom
      show _ = _ + ((0 : Rat) + _)
      rw [Rat.zero_add]
    rw [e, decide_eq_true rfl]; rfl
  · obtain ⟨i0, i1⟩ := rngI_mem.mp hi
    rw [htws, List.length_map] at i1
    obtain ⟨a1, a2, _⟩ := press_T hl hls i0 i1 ht (by decide) (by decide)
    obtain ⟨b1, b2, _⟩ := press_T hl hsp i0 i1 ht (by decide) (by decide)
    refine ⟨⟨b1, a1⟩, ?_⟩
    show (if (!decide (F_press l sp t i = F_press l ls t i)) = true then Stp.rt false else Stp.nx ()) = _
    rw [a2, b2]
    have e : prs l sp t i = prs l ls t i := by unfold prs; rw [hspq, split_bur]
    rw [e, decide_eq_true rfl]; rfl
theorem law_true (ns : List Int) (hns : ns.length ≤ 63) : m_law [.list (ns.map .int)] = .ok (.bool true) := by
  obtain ⟨h1, h2⟩ := law_ok ns
  have := T_law ns h1
  rw [h2] at this
  exact this
end Law
end
section
open PySem PySem.W PySem.Calls PyProof.Rows
set_option maxHeartbeats 0 in
theorem PySem.Challenge.cw_ropesbear_k03_whole_ropes_are_in_balance_holds : PySem.Challenge.rw_ropesbear_k03_whole_ropes_are_in_balance.Holds := by
  w_on; o_law
  refine HandSHeadRun.head_imp (r := OpenLaw.row PySem.Challenge.rw_ropesbear_k03_whole_ropes_are_in_balance) (q := view (OpenLaw.row PySem.Challenge.rw_ropesbear_k03_whole_ropes_are_in_balance).prog [0, 50]) (H := Law.hk) (ob := Law.ob) (M := 3460) (loose := Law.loose) (d := HandSHeadRun.topDef (OpenLaw.row PySem.Challenge.rw_ropesbear_k03_whole_ropes_are_in_balance).prog 50) (kwd := []) Law.ob_eq
    Law.run (by kernel_rfl) (by kernel_rfl) (by kernel_rfl) (by rfl) (by first | assumption | decide +kernel) (by decide +kernel) ⟨rfl, rfl, rfl, rfl, rfl, by decide +kernel⟩ ?hw ?hc
  case hw => w_witness2
  case hc =>
    refine PV.walk_world (l := PySem.Challenge.rw_ropesbear_k03_whole_ropes_are_in_balance) (n := 63) (k := 9) (x := "script") rfl (by decide) (by kernel_rfl) ⟨rfl, by decide, by decide⟩ ?_
    intro w mg fa h Y G hmg0
    obtain ⟨K, KX, c⟩ := Y
    have hmg : mg ("law" : PySem.Str) = some (.ref fa) := by
      have e : (HandSHeadRun.topDef (OpenLaw.row PySem.Challenge.rw_ropesbear_k03_whole_ropes_are_in_balance).prog 50).name = ("law" : PySem.Str) := by kernel_rfl
      rw [← e]
      exact hmg0
    obtain ⟨fd, hb, hF⟩ := Law.facts (P := (PySem.Challenge.rw_ropesbear_k03_whole_ropes_are_in_balance).prog) (w := w) KX G hmg c
    exact ⟨K, fd, PV.SpV K mg 1 Law.m_law, KX, hb, fun H a ns hl hS => PV.law_end (n := 63) (by decide) Law.law_true H a ns hl hS, hF⟩
end
