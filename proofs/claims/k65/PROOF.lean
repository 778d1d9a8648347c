import PyProof.Rows.All
import Wide.All
import OpenK.AllK
import Wide.FinOn
import HandS.ForMost
import HandS.Exc
import HandS.TryOnly
import HandS.TryMany
import HandS.ExcOwn
import HandS.WordsExc
import HandS.CallSlots
import HandS.TupAny
import HandS.Wide
import HandS.Gcd
import HandS.IsInst
import KE.SortData
import HandS.Zip
import HandS.Rev
import HandS.RevRange
import HandS.Defaults
import HandS.Head0
import HandS.Head1
import HandS.Head2
import HandS.HeadEnd
import HandS.HeadHook1
import HandS.HeadHook2
import HandS.HeadHook3
import HandS.HeadHook4
import KE.Datum
import HandS.ExcIs
import HandS.Conv
import HandS.Style
import KE.DataMinMax
import PyProof.Rows.RowBridgeK
import HandS.Head3
import PySem.Challenge.RW_ropesbear_k65_whole_first_worn_pieces
section
set_option Elab.async false
set_option linter.all false
set_option maxRecDepth 100000
set_option maxHeartbeats 4000000
/-! VA: data in the place of the heap. What a piece of text yields is told over PyData; lists that a body changes are its own. -/
namespace PV
abbrev Sg := L2.St
open PySem PySem.Spec PyProof.Rows L2

/-! ### results -/
inductive R (ε α : Type) where
  | ok (a : α)
  | exc (c : Str) (e : ε)
  | bad
def R.bind {ε α β : Type} (x : R ε α) (f : α → R ε β) : R ε β := match x with
  | .ok a => f a
  | .exc c e => .exc c e
  | .bad => .bad
def R.post {ε α : Type} (x : R ε α) (Q : α → Prop) (E : Str → ε → Prop) : Prop := match x with
  | .ok a => Q a
  | .exc c e => E c e
  | .bad => False
theorem R.post_mono {ε α : Type} {x : R ε α} {Q Q' : α → Prop} {E E' : Str → ε → Prop} (h : x.post Q E) (hq : ∀ a, Q a → Q' a) (he : ∀ c e, E c e → E' c e) : x.post Q' E' := by
  cases x with
  | ok a => exact hq a h
  | exc c e => exact he c e h
  | bad => exact h
theorem R.post_bind {ε α β : Type} {x : R ε α} {f : α → R ε β} {Q : β → Prop} {E : Str → ε → Prop} (h : (x.bind f).post Q E) : x.post (fun a => (f a).post Q E) E := by
  cases x with
  | ok a => exact h
  | exc c e => exact h
  | bad => exact h
abbrev RE (α : Type) := R Unit α
def ofO {α : Type} : Option α → RE α
  | some a => .ok a
  | none => .bad
/-- a guard -/
def grd {ε α : Type} (p : Prop) [Decidable p] (x : R ε α) : R ε α := if p then x else .bad
theorem grd_pos {ε α : Type} {p : Prop} [Decidable p] {x : R ε α} (h : p) : grd p x = x := if_pos h

/-! ### the heap and its still part -/
structure Ext (F H F' H' : Hp) : Prop where
  hh : Same H H'
  ff : Same F F'
  fh : Same F' H'
  nw : ∀ a o, F' a = some o → F a = some o ∨ H a = none
theorem Ext.refl {F H : Hp} (h : Same F H) : Ext F H F H := ⟨Same.refl _, Same.refl _, h, fun _ _ e => .inl e⟩
theorem Ext.trans {F H F1 H1 F2 H2 : Hp} (a : Ext F H F1 H1) (b : Ext F1 H1 F2 H2) : Ext F H F2 H2 :=
  ⟨a.hh.trans b.hh, a.ff.trans b.ff, b.fh, fun x o e => by
    rcases b.nw x o e with q | q
    · exact a.nw x o q
    · exact .inr (a.hh.free q)⟩
theorem same_upd {H : Hp} {p : Addr} {o : HO} (n : H p = none) : Same H (upd H p o) := fun b u e => by
  rw [upd_ne (ne_of_none e n)]; exact e
/-- a new object that is still from now on -/
theorem Ext.new {F H : Hp} {p : Addr} {o : HO} (h : Same F H) (n : H p = none) : Ext F H (upd F p o) (upd H p o) := by
  refine ⟨same_upd n, same_upd (h.free n), fun b u e => ?_, fun b u e => ?_⟩
  · by_cases hb : b = p
    · subst hb; rw [upd_same] at e ⊢; exact e
    · rw [upd_ne hb] at e ⊢; exact h b u e
  · by_cases hb : b = p
    · subst hb; exact .inr n
    · rw [upd_ne hb] at e; exact .inl e
/-- a new object beside the still part -/
theorem Ext.beside {F H : Hp} {p : Addr} {o : HO} (h : Same F H) (n : H p = none) : Ext F H F (upd H p o) :=
  ⟨same_upd n, Same.refl _, h.trans (same_upd n), fun _ _ e => .inl e⟩
/-- the still part grows by an object that stands beside it, outside of what stood ahead -/
theorem Ext.still {F H F1 H1 : Hp} {p : Addr} {o : HO} (e : Ext F H F1 H1) (h1 : H1 p = some o) (n : H p = none) (nf : F1 p = none) : Ext F H (upd F1 p o) H1 := by
  refine ⟨e.hh, e.ff.trans (same_upd nf), fun b u q => ?_, fun b u q => ?_⟩
  · by_cases hb : b = p
    · subst hb; rw [upd_same] at q; rw [h1]; exact q
    · rw [upd_ne hb] at q; exact e.fh b u q
  · by_cases hb : b = p
    · subst hb; exact .inr n
    · rw [upd_ne hb] at q; exact e.nw b u q

/-! ### a value is a datum -/
section
variable (K : PySem.W.Frag)
mutual
inductive Vd (F : Hp) : V → PyData → Prop
  | non : Vd F .non .none
  | bl (b : Bool) : Vd F (.bl b) (.bool b)
  | int (i : Int) : Vd F (.int i) (.int i)
  | str (x : Str) : PyData.strOk x = true → Vd F (.str x) (.str x)
  | lst {a : Addr} {xs : List V} {ds : List PyData} : SqL K F a xs → xs.length ≤ sizeLine → VdAll F xs ds → Vd F (.ref a) (.list ds)
  | tup {a : Addr} {xs : List V} {ds : List PyData} : SqT K F a xs → xs.length ≤ sizeLine → VdAll F xs ds → Vd F (.ref a) (.tuple ds)
inductive VdAll (F : Hp) : List V → List PyData → Prop
  | nil : VdAll F [] []
  | cons {v : V} {vs : List V} {d : PyData} {ds : List PyData} : Vd F v d → VdAll F vs ds → VdAll F (v :: vs) (d :: ds)
end
end
theorem same_rd {H H' : Hp} {a : Addr} {u : HO} (e : Same H H') (h : Rd H a u) : Rd H' a u := by
  rcases h with h | ⟨o, h⟩
  · exact .inl (e _ _ h)
  · exact .inr ⟨o, e _ _ h⟩
theorem same_sqT {K : PySem.W.Frag} {H H' : Hp} {a : Addr} {xs : List V} (e : Same H H') (h : SqT K H a xs) : SqT K H' a xs := by
  rcases h with h | h
  · exact .inl (same_rd e h)
  · exact .inr h
section
variable {K : PySem.W.Frag} {F F' : Hp}
mutual
theorem Vd.mono (e : Same F F') : ∀ (d : PyData) (v : V), Vd K F v d → Vd K F' v d
  | .none, _, h => by cases h; exact .non
  | .bool b, _, h => by cases h; exact .bl b
  | .int i, _, h => by cases h; exact .int i
  | .str x, _, h => by cases h with | str _ hx => exact .str x hx
  | .list ds, _, h => by cases h with | lst hs hz ha => exact .lst (e.seq hs) hz (VdAll.mono e ds _ ha)
  | .tuple ds, _, h => by cases h with | tup hs hz ha => exact .tup (same_sqT e hs) hz (VdAll.mono e ds _ ha)
  | .dict _, _, h => by cases h
theorem VdAll.mono (e : Same F F') : ∀ (ds : List PyData) (vs : List V), VdAll K F vs ds → VdAll K F' vs ds
  | [], _, h => by cases h; exact .nil
  | d :: ds, _, h => by cases h with | cons h1 h2 => exact .cons (Vd.mono e d _ h1) (VdAll.mono e ds _ h2)
end
mutual
theorem Vd.dp : ∀ (d : PyData) (v : V), Vd K F v d → Dp K F v d ∧ d.canLay0 = true
  | .none, _, h => by cases h; exact ⟨.non, rfl⟩
  | .bool b, _, h => by cases h; exact ⟨.bl b, rfl⟩
  | .int i, _, h => by cases h; exact ⟨.int i, rfl⟩
  | .str x, _, h => by cases h with | str _ hx => exact ⟨.str x, by simpa only [PyData.canLay0] using hx⟩
  | .list ds, _, h => by cases h with | lst hs hz ha => exact ⟨.lst hs (VdAll.dp ds _ ha).1, by simpa only [PyData.canLay0] using (VdAll.dp ds _ ha).2⟩
  | .tuple ds, _, h => by cases h with | tup hs hz ha => exact ⟨.tup hs (VdAll.dp ds _ ha).1, by simpa only [PyData.canLay0] using (VdAll.dp ds _ ha).2⟩
  | .dict _, _, h => by cases h
theorem VdAll.dp : ∀ (ds : List PyData) (vs : List V), VdAll K F vs ds → DpAll K F vs ds ∧ PyData.canLayAll0 ds = true
  | [], _, h => by cases h; exact ⟨.nil, rfl⟩
  | d :: ds, _, h => by cases h with | cons h1 h2 => exact ⟨.cons (Vd.dp d _ h1).1 (VdAll.dp ds _ h2).1, by simp only [PyData.canLayAll0, (Vd.dp d _ h1).2, (VdAll.dp ds _ h2).2, Bool.and_self]⟩
end
theorem VdAll.length : ∀ {vs : List V} {ds : List PyData}, VdAll K F vs ds → vs.length = ds.length
  | _, _, .nil => rfl
  | _, _, .cons _ t => by rw [List.length_cons, List.length_cons, VdAll.length t]
theorem VdAll.get : ∀ {vs : List V} {ds : List PyData} {i : Nat} {d : PyData}, VdAll K F vs ds → ds[i]? = some d → ∃ v, vs[i]? = some v ∧ Vd K F v d
  | _, _, _, _, .nil, e => by simp at e
  | _, _, 0, _, .cons h _, e => by simp at e; subst e; exact ⟨_, rfl, h⟩
  | _, _, i + 1, d, .cons _ t, e => by
    obtain ⟨v, h1, h2⟩ := VdAll.get (i := i) (d := d) t (by simpa using e)
    exact ⟨v, by simpa using h1, h2⟩
theorem VdAll.getV : ∀ {vs : List V} {ds : List PyData} {i : Nat} {v : V}, VdAll K F vs ds → vs[i]? = some v → ∃ d, ds[i]? = some d ∧ Vd K F v d
  | _, _, _, _, .nil, e => by simp at e
  | _, _, 0, _, .cons h _, e => by simp at e; subst e; exact ⟨_, rfl, h⟩
  | _, _, i + 1, v, .cons _ t, e => by
    obtain ⟨d, h1, h2⟩ := VdAll.getV (i := i) (v := v) t (by simpa using e)
    exact ⟨d, by simpa using h1, h2⟩
theorem VdAll.append : ∀ {vs ws : List V} {ds es : List PyData}, VdAll K F vs ds → VdAll K F ws es → VdAll K F (vs ++ ws) (ds ++ es)
  | _, _, _, _, .nil, s => s
  | _, _, _, _, .cons h t, s => .cons h (VdAll.append t s)
theorem VdAll.set {v : V} {d : PyData} (h : Vd K F v d) : ∀ {vs : List V} {ds : List PyData} (i : Nat), VdAll K F vs ds → VdAll K F (vs.set i v) (ds.set i d)
  | _, _, _, .nil => .nil
  | _, _, 0, .cons _ t => .cons h t
  | _, _, i + 1, .cons q t => .cons q (VdAll.set h i t)
theorem VdAll.take : ∀ {vs : List V} {ds : List PyData} (n : Nat), VdAll K F vs ds → VdAll K F (vs.take n) (ds.take n)
  | _, _, 0, _ => .nil
  | _, _, _ + 1, .nil => .nil
  | _, _, n + 1, .cons h t => .cons h (VdAll.take n t)
theorem VdAll.drop : ∀ {vs : List V} {ds : List PyData} (n : Nat), VdAll K F vs ds → VdAll K F (vs.drop n) (ds.drop n)
  | _, _, 0, h => h
  | _, _, _ + 1, .nil => .nil
  | _, _, n + 1, .cons _ t => VdAll.drop n t
theorem VdAll.reverse {vs : List V} {ds : List PyData} (h : VdAll K F vs ds) : VdAll K F vs.reverse ds.reverse := by
  induction ds generalizing vs with
  | nil => cases h; exact .nil
  | cons d ds ih =>
    cases h with
    | cons h1 h2 => rw [List.reverse_cons, List.reverse_cons]; exact (ih h2).append (.cons h1 .nil)
theorem VdAll.erase : ∀ {vs : List V} {ds : List PyData} (i : Nat), VdAll K F vs ds → VdAll K F (vs.eraseIdx i) (ds.eraseIdx i)
  | _, _, _, .nil => .nil
  | _, _, 0, .cons _ t => t
  | _, _, i + 1, .cons h t => .cons h (VdAll.erase i t)
theorem VdAll.rep {vs : List V} {ds : List PyData} (h : VdAll K F vs ds) : ∀ k : Nat, VdAll K F (List.replicate k vs).flatten (List.replicate k ds).flatten
  | 0 => .nil
  | k + 1 => by rw [List.replicate_succ, List.replicate_succ, List.flatten_cons, List.flatten_cons]; exact h.append (VdAll.rep h k)
theorem VdAll.mem {d : PyData} : ∀ {vs : List V} {ds : List PyData}, VdAll K F vs ds → d ∈ ds → ∃ v, v ∈ vs ∧ Vd K F v d
  | _, _, .cons h t, m => by
    rcases List.mem_cons.mp m with rfl | m
    · exact ⟨_, List.mem_cons_self, h⟩
    · obtain ⟨v, h1, h2⟩ := VdAll.mem t m
      exact ⟨v, List.mem_cons_of_mem _ h1, h2⟩
end

/-! ### the frame's names -/
inductive Cel where
  | val (d : PyData)
  /-- a list that the body made and changes -/
  | own (ds : List PyData)
  /-- the error that a suite holds, by its class's name -/
  | exn (c : Str)
abbrev Evn := List (Option Cel)
/-- of a body: what stood ahead of it, its still part, what is wanted of an exception -/
structure Pm where
  B : Hp
  F0 : Hp
  W : WX
  /-- the error that is held -/
  E : Option (Addr × Str)
def CellOk (K : PySem.W.Frag) (P : Pm) (F H : Hp) (v : V) : Cel → Prop
  | .val d => Vd K F v d
  | .exn c => ∃ a, P.E = some (a, c) ∧ v = .ref a
  | .own ds => ∃ a xs, v = .ref a ∧ P.B a = none ∧ F a = none ∧ H a = some (.lst xs) ∧ xs.length ≤ sizeLine ∧ VdAll K F xs ds
structure Rep (K : PySem.W.Frag) (P : Pm) (ρ : Evn) (F : Hp) (σ : Sg) (H : Hp) : Prop where
  len : ρ.length = σ.length
  ext : Ext P.F0 P.B F H
  slot : ∀ (i : Nat) (c : Cel), ρ[i]? = some (some c) → ∃ v, σ[i]? = some (some v) ∧ CellOk K P F H v c
  sep : ∀ (i j : Nat) (a : Addr) (ds es : List PyData), i ≠ j → ρ[i]? = some (some (.own ds)) → ρ[j]? = some (some (.own es)) → σ[i]? = some (some (.ref a)) → σ[j]? ≠ some (some (.ref a))
section
variable {K : PySem.W.Frag} {P : Pm} {ρ : Evn} {F F' H H' : Hp} {σ : Sg}
theorem Rep.fh (r : Rep K P ρ F σ H) : Same F H := r.ext.fh
theorem CellOk.step {v : V} {c : Cel} (h : CellOk K P F H v c) (e : Ext F H F' H') : CellOk K P F' H' v c := by
  cases c with
  | exn c => exact h
  | val d => exact Vd.mono e.ff d v h
  | own ds =>
    obtain ⟨a, xs, ev, hb, hf, hh, hz, hd⟩ := h
    refine ⟨a, xs, ev, hb, ?_, e.hh a _ hh, hz, VdAll.mono e.ff ds xs hd⟩
    cases q : F' a with
    | none => rfl
    | some o =>
      rcases e.nw a o q with z | z
      · rw [hf] at z; cases z
      · rw [hh] at z; cases z
theorem Rep.step (r : Rep K P ρ F σ H) (e : Ext F H F' H') : Rep K P ρ F' σ H' :=
  ⟨r.len, r.ext.trans e, fun i c q => let ⟨v, h1, h2⟩ := r.slot i c q; ⟨v, h1, h2.step e⟩, r.sep⟩
/-- a datum is stored -/
theorem Rep.setVal {i : Nat} {v : V} {d : PyData} (r : Rep K P ρ F σ H) (h : Vd K F v d) : Rep K P (ρ.set i (some (.val d))) F (σ.set i (some v)) H := by
  refine ⟨by rw [List.length_set, List.length_set]; exact r.len, r.ext, fun j c q => ?_, fun j k a ds es hne q1 q2 q3 => ?_⟩
  · by_cases hj : i = j
    · subst hj
      have hi : i < ρ.length := by
        have := (List.getElem?_eq_some_iff.mp q).1
        rwa [List.length_set] at this
      rw [List.getElem?_set_self hi] at q
      cases q
      exact ⟨v, by rw [List.getElem?_set_self (by rw [← r.len]; exact hi)], h⟩
    · rw [List.getElem?_set_ne hj] at q
      obtain ⟨u, h1, h2⟩ := r.slot j c q
      exact ⟨u, by rw [List.getElem?_set_ne hj]; exact h1, h2⟩
  · have nj : ∀ {j : Nat} {ds : List PyData}, (ρ.set i (some (.val d)))[j]? = some (some (.own ds)) → i ≠ j ∧ ρ[j]? = some (some (.own ds)) := fun {j ds} q => by
      by_cases hj : i = j
      · subst hj
        have hi : i < ρ.length := by
          have := (List.getElem?_eq_some_iff.mp q).1
          rwa [List.length_set] at this
        rw [List.getElem?_set_self hi] at q
        cases q
      · rw [List.getElem?_set_ne hj] at q
        exact ⟨hj, q⟩
    obtain ⟨n1, p1⟩ := nj q1
    obtain ⟨n2, p2⟩ := nj q2
    rw [List.getElem?_set_ne n1] at q3
    rw [List.getElem?_set_ne n2]
    exact r.sep j k a ds es hne p1 p2 q3
/-- a list that stands beside the still part becomes a name's own -/
theorem Rep.setOwn {i : Nat} {a : Addr} {xs : List V} {ds : List PyData} (r : Rep K P ρ F σ H) (hb : P.B a = none) (hf : F a = none) (hh : H a = some (.lst xs)) (hz : xs.length ≤ sizeLine) (h : VdAll K F xs ds)
    (fresh : ∀ (j : Nat) (es : List PyData), j ≠ i → ρ[j]? = some (some (.own es)) → σ[j]? ≠ some (some (.ref a))) : Rep K P (ρ.set i (some (.own ds))) F (σ.set i (some (.ref a))) H := by
  refine ⟨by rw [List.length_set, List.length_set]; exact r.len, r.ext, fun j c q => ?_, fun j k b es es' hne q1 q2 q3 => ?_⟩
  · by_cases hj : i = j
    · subst hj
      have hi : i < ρ.length := by
        have := (List.getElem?_eq_some_iff.mp q).1
        rwa [List.length_set] at this
      rw [List.getElem?_set_self hi] at q
      cases q
      exact ⟨_, by rw [List.getElem?_set_self (by rw [← r.len]; exact hi)], a, xs, rfl, hb, hf, hh, hz, h⟩
    · rw [List.getElem?_set_ne hj] at q
      obtain ⟨u, h1, h2⟩ := r.slot j c q
      exact ⟨u, by rw [List.getElem?_set_ne hj]; exact h1, h2⟩
  · by_cases h1 : i = j
    · subst h1
      have hi : i < σ.length := by
        have := (List.getElem?_eq_some_iff.mp q3).1
        rwa [List.length_set] at this
      rw [List.getElem?_set_self hi] at q3
      have e : a = b := by
        have := Option.some.inj (Option.some.inj q3)
        exact V.ref.inj this
      subst e
      rw [List.getElem?_set_ne hne] at q2 ⊢
      exact fresh k es' (Ne.symm hne) q2
    · rw [List.getElem?_set_ne h1] at q1 q3
      by_cases h2 : i = k
      · subst h2
        intro q4
        have hi : i < σ.length := by
          have := (List.getElem?_eq_some_iff.mp q4).1
          rwa [List.length_set] at this
        rw [List.getElem?_set_self hi] at q4
        have e : a = b := V.ref.inj (Option.some.inj (Option.some.inj q4))
        subst e
        exact fresh j es (Ne.symm h1) q1 q3
      · rw [List.getElem?_set_ne h2] at q2 ⊢
        exact r.sep j k b es es' hne q1 q2 q3
/-- forgetting a name -/
theorem Rep.setNone {i : Nat} (r : Rep K P ρ F σ H) : Rep K P (ρ.set i none) F (σ.set i none) H := by
  have nj : ∀ {j : Nat} {c : Cel}, (ρ.set i none)[j]? = some (some c) → i ≠ j ∧ ρ[j]? = some (some c) := fun {j c} q => by
    by_cases hj : i = j
    · subst hj
      have hi : i < ρ.length := by
        have := (List.getElem?_eq_some_iff.mp q).1
        rwa [List.length_set] at this
      rw [List.getElem?_set_self hi] at q
      cases q
    · rw [List.getElem?_set_ne hj] at q
      exact ⟨hj, q⟩
  refine ⟨by rw [List.length_set, List.length_set]; exact r.len, r.ext, fun j c q => ?_, fun j k a ds es hne q1 q2 q3 => ?_⟩
  · obtain ⟨n, p⟩ := nj q
    obtain ⟨u, h1, h2⟩ := r.slot j c p
    exact ⟨u, by rw [List.getElem?_set_ne n]; exact h1, h2⟩
  · obtain ⟨n1, p1⟩ := nj q1
    obtain ⟨n2, p2⟩ := nj q2
    rw [List.getElem?_set_ne n1] at q3
    rw [List.getElem?_set_ne n2]
    exact r.sep j k a ds es hne p1 p2 q3
/-- a name's own list becomes still -/
def freeze (i : Nat) (ρ : Evn) : Evn := match ρ[i]? with
  | some (some (.own ds)) => ρ.set i (some (.val (.list ds)))
  | _ => ρ
theorem Rep.freeze {i : Nat} (r : Rep K P ρ F σ H) : ∃ F', Same F F' ∧ Rep K P (freeze i ρ) F' σ H := by
  unfold PV.freeze
  cases q : ρ[i]? with
  | none => exact ⟨F, Same.refl _, r⟩
  | some o =>
    cases o with
    | none => exact ⟨F, Same.refl _, r⟩
    | some c =>
      cases c with
      | val d => exact ⟨F, Same.refl _, r⟩
      | exn c => exact ⟨F, Same.refl _, r⟩
      | own ds =>
        obtain ⟨v, hσ, a, xs, ev, hb, hf, hh, hz, hd⟩ := r.slot i _ q
        subst ev
        have hi : i < ρ.length := (List.getElem?_eq_some_iff.mp q).1
        have ff : Same F (upd F a (.lst xs)) := same_upd hf
        have hset : σ.set i (some (.ref a)) = σ := by
          apply List.ext_getElem?
          intro j
          by_cases hj : i = j
          · subst hj; rw [List.getElem?_set_self (by rw [← r.len]; exact hi)]; exact hσ.symm
          · rw [List.getElem?_set_ne hj]
        have nj : ∀ {j : Nat} {c : Cel}, (ρ.set i (some (.val (.list ds))))[j]? = some (some c) → (i = j ∧ c = .val (.list ds)) ∨ (i ≠ j ∧ ρ[j]? = some (some c)) := fun {j c} q => by
          by_cases hj : i = j
          · subst hj
            rw [List.getElem?_set_self hi] at q
            cases q
            exact .inl ⟨rfl, rfl⟩
          · rw [List.getElem?_set_ne hj] at q
            exact .inr ⟨hj, q⟩
        refine ⟨upd F a (.lst xs), ff, by rw [List.length_set]; exact r.len, ⟨r.ext.hh, r.ext.ff.trans ff, fun b u e => ?_, fun b u e => ?_⟩, fun j c p => ?_, fun j k b es es' hne q1 q2 q3 => ?_⟩
        · by_cases hb' : b = a
          · subst hb'; rw [upd_same] at e; rw [hh]; exact e
          · rw [upd_ne hb'] at e; exact r.fh b u e
        · by_cases hb' : b = a
          · subst hb'; exact .inr hb
          · rw [upd_ne hb'] at e; exact r.ext.nw b u e
        · rcases nj p with ⟨e, ec⟩ | ⟨n, p⟩
          · subst e; subst ec
            exact ⟨_, hσ, .lst (SqL.of upd_same) hz (VdAll.mono ff ds xs hd)⟩
          · obtain ⟨u, h1, h2⟩ := r.slot j c p
            refine ⟨u, h1, ?_⟩
            cases c with
            | val d => exact Vd.mono ff d u h2
            | exn c => exact h2
            | own es =>
              obtain ⟨a', xs', ev, hb', hf', hh', hz', hd'⟩ := h2
              subst ev
              refine ⟨a', xs', rfl, hb', ?_, hh', hz', VdAll.mono ff es xs' hd'⟩
              rw [upd_ne]
              · exact hf'
              · intro e
                subst e
                exact r.sep i j _ ds es n q p hσ h1
        · rcases nj q1 with ⟨_, e⟩ | ⟨n1, p1⟩
          · cases e
          · rcases nj q2 with ⟨_, e⟩ | ⟨n2, p2⟩
            · cases e
            · exact r.sep j k b es es' hne p1 p2 q3
end
end PV
end
section
set_option Elab.async false
set_option linter.all false
set_option maxRecDepth 100000
set_option maxHeartbeats 4000000
namespace PV
open PySem PySem.Spec PyProof.Rows L2

/-! ### expressions -/
/-- a result of an expression is taken -/
def Out (X : Cx) (P : Pm) (σ : Sg) (Q : VK) (F H : Hp) (r : RE PyData) : Prop :=
  r.post (fun d => ∀ v H' F', Ext F H F' H' → Vd X.K F' v d → Q v H') (fun c _ => ∀ C H' F', X.mg c = some (.ref C) → Ext F H F' H' → P.W (.ref C) none σ H')
theorem Out.step {X : Cx} {P : Pm} {σ : Sg} {Q : VK} {F H F1 H1 : Hp} {r : RE PyData} (h : Out X P σ Q F H r) (e : Ext F H F1 H1) : Out X P σ Q F1 H1 r :=
  R.post_mono h (fun d q v H' F' e' hv => q v H' F' (e.trans e') hv) (fun c _ q C H' F' hm e' => q C H' F' hm (e.trans e'))
theorem Out.mono {X : Cx} {P : Pm} {σ : Sg} {Q Q' : VK} {F H : Hp} {r : RE PyData} (h : Out X P σ Q F H r) (m : ∀ v H', Q v H' → Q' v H') : Out X P σ Q' F H r :=
  R.post_mono h (fun d q v H' F' e' hv => m _ _ (q v H' F' e' hv)) (fun c _ q => q)
/-- the reading of an expression by its meaning f -/
def tV (X : Cx) (P : Pm) (f : Evn → RE PyData) : TE := fun σ H Q => ∃ ρ F, Rep X.K P ρ F σ H ∧ Out X P σ Q F H (f ρ)
def VE (X : Cx) (P : Pm) (e : Expr) (f : Evn → RE PyData) : Prop := PE X e (tV X P f)
theorem PE_mono {X : Cx} {e : Expr} {t t' : TE} (h : PE X e t) (m : ∀ σ H Q, t' σ H Q → t σ H Q) : PE X e t' := ⟨fun pins s σ H Q I q => h.run pins s σ H Q I (m σ H Q q)⟩
section
variable {X : Cx} {P : Pm} {σ : Sg} {Q : VK} {F H : Hp} {ρ : Evn}
/-- the first part of a meaning is read -/
theorem Out.first {f : Evn → RE PyData} {k : PyData → RE PyData} {Q' : VK} (hR : Rep X.K P ρ F σ H) (h : Out X P σ Q F H ((f ρ).bind k))
    (hq : ∀ d v F1 H1, Ext F H F1 H1 → Vd X.K F1 v d → Rep X.K P ρ F1 σ H1 → Out X P σ Q F1 H1 (k d) → Q' v H1) : tV X P f σ H Q' := by
  refine ⟨ρ, F, hR, ?_⟩
  exact R.post_mono (R.post_bind h) (fun d q v H' F' e hv => hq d v F' H' e hv (hR.step e) (Out.step q e)) (fun c _ q => q)
end

/-! ### names, constants -/
def mGet (i : Nat) (ρ : Evn) : RE PyData := match ρ[i]? with
  | some (some (.val d)) => .ok d
  | _ => .bad
section
variable {X : Cx} {P : Pm} {pos : Pos}
theorem ve_var (i : Nat) {x : Str} (hN : X.N[i]? = some x := by rfl) (hv : Vis X.env.scope x := by first | exact Or.inl rfl | exact Or.inr (Or.inl rfl) | exact Or.inr (Or.inr rfl)) (hd : (x == ("__debug__" : Str)) = false := by decide)
    (hcd : (x == ("__classdict__" : Str)) = false := by decide) : VE X P (.Name x pos) (mGet i) := by
  refine PE_mono (pe_var (i := i) hN hv hd hcd) fun σ H Q h => ?_
  obtain ⟨ρ, F, hR, h⟩ := h
  unfold mGet at h
  split at h
  · rename_i d e
    obtain ⟨v, h1, h2⟩ := hR.slot i _ e
    exact ⟨v, h1, h v H F (Ext.refl hR.fh) h2⟩
  · exact h.elim
def mC (d : PyData) (_ : Evn) : RE PyData := .ok d
theorem ve_int {i : Int} {j : Nat} : VE X P (.Constant (.int i) j pos) (mC (.int i)) := PE_mono pe_int fun σ H Q h => by
  obtain ⟨ρ, F, hR, h⟩ := h
  exact h _ H F (Ext.refl hR.fh) (.int i)
theorem ve_bl {b : Bool} {j : Nat} : VE X P (.Constant (.bool b) j pos) (mC (.bool b)) := PE_mono pe_bl fun σ H Q h => by
  obtain ⟨ρ, F, hR, h⟩ := h
  exact h _ H F (Ext.refl hR.fh) (.bl b)
theorem ve_non {j : Nat} : VE X P (.Constant .none j pos) (mC .none) := PE_mono pe_non fun σ H Q h => by
  obtain ⟨ρ, F, hR, h⟩ := h
  exact h _ H F (Ext.refl hR.fh) .non
theorem ve_str {x : Str} {j : Nat} (hx : PyData.strOk x = true := by decide +kernel) : VE X P (.Constant (.str x) j pos) (mC (.str x)) := PE_mono pe_str fun σ H Q h => by
  obtain ⟨ρ, F, hR, h⟩ := h
  exact h _ H F (Ext.refl hR.fh) (.str x hx)
end

/-! ### operators by data -/
/-- an operator of two values, by its meaning g -/
def OpV (X : Cx) (f : Value → Value → Sem Value) (g : PyData → PyData → Option PyData) : Prop :=
  ∀ (pins : List (Addr × Obj)) (s : Shared) (σ : Sg) (H : Hp) (x y : V) (v u : Value) (Q : VK), Inv X pins σ H s → RelV x v → RelV y u →
    ∀ (F : Hp) (d e r : PyData), Same F H → Vd X.K F x d → Vd X.K F y e → g d e = some r → (∀ v' H' F', Ext F H F' H' → Vd X.K F' v' r → Q v' H') → wpAny (model X.prog X.w) X.A (f v u) (EP X pins σ Q) X.xe s
def rV (X : Cx) (g : PyData → PyData → Option PyData) : R2 := fun x y H Q => ∃ F d e r, Same F H ∧ Vd X.K F x d ∧ Vd X.K F y e ∧ g d e = some r ∧ ∀ v' H' F', Ext F H F' H' → Vd X.K F' v' r → Q v' H'
theorem OpV.r {X : Cx} {f : Value → Value → Sem Value} {g : PyData → PyData → Option PyData} (h : OpV X f g) : OpR X f (rV X g) :=
  fun pins s σ H x y v u Q I rx ry ⟨F, d, e, r, sf, hx, hy, hg, hq⟩ => h pins s σ H x y v u Q I rx ry F d e r sf hx hy hg hq
def m2 (g : PyData → PyData → Option PyData) (fa fb : Evn → RE PyData) (ρ : Evn) : RE PyData := (fa ρ).bind fun x => (fb ρ).bind fun y => ofO (g x y)
section
variable {X : Cx} {P : Pm} {pos : Pos} {a b c : Expr} {fa fb fc : Evn → RE PyData} {g : PyData → PyData → Option PyData}
theorem Out.ofO {σ : Sg} {Q : VK} {F H : Hp} {o : Option PyData} (h : Out X P σ Q F H (ofO o)) : ∃ r, o = some r ∧ ∀ v' H' F', Ext F H F' H' → Vd X.K F' v' r → Q v' H' := by
  cases o with
  | some r => exact ⟨r, rfl, h⟩
  | none => exact h.elim
theorem rd2 {σ : Sg} {H : Hp} {Q : VK} (h : tV X P (m2 g fa fb) σ H Q) : tOp (rV X g) (tV X P fa) (tV X P fb) σ H Q := by
  obtain ⟨ρ, F, hR, h⟩ := h
  refine Out.first hR h fun d v F1 H1 e1 hv R1 h1 => ?_
  refine Out.first R1 h1 fun d2 v2 F2 H2 e2 hv2 R2 h2 => ?_
  obtain ⟨r, hr, hq⟩ := h2.ofO
  exact ⟨F2, d, d2, r, R2.fh, Vd.mono e2.ff d v hv, hv2, hr, hq⟩
theorem ve_op {op : Operator} (ho : OpV X (binaryOp op) g) (ha : VE X P a fa) (hb : VE X P b fb) : VE X P (.BinOp a op b pos) (m2 g fa fb) := PE_mono (pe_op ho.r ha hb) fun _ _ _ h => rd2 h
theorem ve_cmp {op : CmpOp} (ho : OpV X (compareOp op) g) (ha : VE X P a fa) (hb : VE X P b fb) (hm : behindInMarks op b = false := by first | exact nomark _ | rfl) : VE X P (.Compare a [op] [b] pos) (m2 g fa fb) := PE_mono (pe_cmpR ho.r ha hb hm) fun _ _ _ h => rd2 h
end

/-! the operators' meanings -/
def b2n (b : Bool) : Int := if b then 1 else 0
/-- two factors whose product is laid -/
def mulOk (i j : Int) : Prop := (-(2 ^ 64) < i ∧ i < 2 ^ 64) ∨ (-(2 ^ 64) < j ∧ j < 2 ^ 64) ∨ i.natAbs.log2 + j.natAbs.log2 < 1000000
instance (i j : Int) : Decidable (mulOk i j) := by unfold mulOk; exact inferInstance
def divOk (j : Int) : Prop := j ≠ 0 ∧ j.natAbs.log2 < 9000
instance (j : Int) : Decidable (divOk j) := by unfold divOk; exact inferInstance
def pAdd : PyData → PyData → Option PyData
  | .int i, .int j => some (.int (i + j))
  | .int i, .bool j => some (.int (i + b2i j))
  | .str x, .str y => if x.length + y.length ≤ sizeLine then some (.str (x ++ y)) else none
  | .list xs, .list ys => if xs.length + ys.length ≤ sizeLine then some (.list (xs ++ ys)) else none
  | .tuple xs, .tuple ys => if xs.length + ys.length ≤ sizeLine then some (.tuple (xs ++ ys)) else none
  | _, _ => none
def pSub : PyData → PyData → Option PyData
  | .int i, .int j => some (.int (i - j))
  | _, _ => none
def pMul : PyData → PyData → Option PyData
  | .int i, .int j => if mulOk i j then some (.int (i * j)) else none
  | _, _ => none
def pDiv : PyData → PyData → Option PyData
  | .int i, .int j => if divOk j then some (.int (i.fdiv j)) else none
  | _, _ => none
def pMod : PyData → PyData → Option PyData
  | .int i, .int j => if j ≠ 0 then some (.int (i.fmod j)) else none
  | _, _ => none
def powOk (i j : Int) : Prop := 0 ≤ j ∧ j ≤ 1000000 ∧ i.natAbs < 2 ^ 64
instance (i j : Int) : Decidable (powOk i j) := by unfold powOk; exact inferInstance
def pPow : PyData → PyData → Option PyData
  | .int i, .int j => if powOk i j then some (.int (i ^ j.toNat)) else none
  | _, _ => none
def pShl : PyData → PyData → Option PyData
  | .int i, .int j => if powOk i j then some (.int (i * 2 ^ j.toNat)) else none
  | _, _ => none
def pShr : PyData → PyData → Option PyData
  | .int i, .int j => if 0 ≤ j then some (.int (i / 2 ^ j.toNat)) else none
  | _, _ => none
def pAnd : PyData → PyData → Option PyData
  | .int i, .int j => some (.int (Builtin.bitAnd i j))
  | _, _ => none
def pOr : PyData → PyData → Option PyData
  | .int i, .int j => some (.int (Builtin.bitOr i j))
  | _, _ => none
def pCmp (p : Int → Int → Bool) : PyData → PyData → Option PyData
  | .int i, .int j => some (.bool (p i j))
  | _, _ => none
abbrev pLt := pCmp fun i j => decide (i < j)
abbrev pLe := pCmp fun i j => decide (i ≤ j)
abbrev pGt := pCmp fun i j => decide (j < i)
abbrev pGe := pCmp fun i j => decide (j ≤ i)
/-- data of a depth that a comparison goes down -/
def eqOk (d e : PyData) : Prop := d.depth ≤ 64 ∨ e.depth ≤ 64
instance (d e : PyData) : Decidable (eqOk d e) := by unfold eqOk; exact inferInstance
def pEq (d e : PyData) : Option PyData := if eqOk d e then some (.bool (PyData.eqv d e)) else none
def pNe (d e : PyData) : Option PyData := if eqOk d e then some (.bool (!PyData.eqv d e)) else none
def isNone : PyData → Bool
  | .none => true
  | _ => false
def pIsN (d e : PyData) : Option PyData := if isNone e then some (.bool (isNone d)) else none
def pIsNotN (d e : PyData) : Option PyData := if isNone e then some (.bool (!isNone d)) else none
section
variable {X : Cx}
theorem some_of_if {α : Type} {p : Prop} [Decidable p] {a r : α} (h : (if p then some a else none) = some r) : p ∧ a = r := by
  by_cases hp : p
  · rw [if_pos hp] at h; exact ⟨hp, Option.some.inj h⟩
  · rw [if_neg hp] at h; cases h
/-- a rule on two ints -/
theorem opI2 {f : Value → Value → Sem Value} {C : Int → Int → Prop} {g : Int → Int → V} {k : Int → Int → PyData} {p : PyData → PyData → Option PyData} (ho : OpR X f (rI C g)) (hk : ∀ F i j, Vd X.K F (g i j) (k i j))
    (hp : ∀ d e r, p d e = some r → ∃ i j, d = .int i ∧ e = .int j ∧ C i j ∧ r = k i j) : OpV X f p := by
  intro pins s σ H x y v u Q I rx ry F d e r sf hx hy hg hq
  obtain ⟨i, j, rfl, rfl, hc, rfl⟩ := hp d e r hg
  cases hx
  cases hy
  exact ho pins s σ H _ _ v u Q I rx ry ⟨i, j, rfl, rfl, hc, hq _ _ F (Ext.refl sf) (hk F i j)⟩
theorem rI0_of {f : Value → Value → Sem Value} {g : Int → Int → V} (ho : OpR X f (rI0 g)) : OpR X f (rI (fun _ _ => True) g) :=
  fun pins s σ H x y v u Q I rx ry ⟨i, j, e1, e2, _, q⟩ => ho pins s σ H x y v u Q I rx ry ⟨i, j, e1, e2, q⟩
theorem op_mulA : OpR X (binaryOp .Mult) (rI mulOk fun i j => .int (i * j)) := by
  intro pins s σ H x y v u Q I rx ry ⟨i, j, e1, e2, hc, q⟩
  rcases hc with hc | hc | hc
  · exact op_mul pins s σ H x y v u Q I rx ry ⟨i, j, e1, e2, .inl hc, q⟩
  · exact op_mul pins s σ H x y v u Q I rx ry ⟨i, j, e1, e2, .inr hc, q⟩
  · exact op_mulW pins s σ H x y v u Q I rx ry ⟨i, j, e1, e2, hc, q⟩
theorem op_divA : OpR X (binaryOp .FloorDiv) (rI (fun _ j => divOk j) fun i j => .int (i.fdiv j)) := opI fun _ _ _ _ _ _ _ hc q => floordiv_int hc.1 q (.inl (PyProof.noPylong_of_log2 hc.2))
/-- a new list or tuple, as a result -/
theorem new_lst {F H : Hp} {Q : VK} {xs : List V} {ds : List PyData} (sf : Same F H) (hz : xs.length ≤ sizeLine) (h : VdAll X.K F xs ds) (hq : ∀ v' H' F', Ext F H F' H' → Vd X.K F' v' (.list ds) → Q v' H') : ∀ p, H p = none → Q (.ref p) (upd H p (.lst xs)) :=
  fun p hp => hq _ _ (upd F p (.lst xs)) (Ext.new sf hp) (.lst (SqL.of upd_same) hz (VdAll.mono (same_upd (sf.free hp)) ds xs h))
theorem new_tup {F H : Hp} {Q : VK} {xs : List V} {ds : List PyData} (sf : Same F H) (hz : xs.length ≤ sizeLine) (h : VdAll X.K F xs ds) (hq : ∀ v' H' F', Ext F H F' H' → Vd X.K F' v' (.tuple ds) → Q v' H') : ∀ p, H p = none → Q (.ref p) (upd H p (.tup xs)) :=
  fun p hp => hq _ _ (upd F p (.tup xs)) (Ext.new sf hp) (.tup (SqT.of upd_same) hz (VdAll.mono (same_upd (sf.free hp)) ds xs h))
/-- list + list, whatever the lists are -/
theorem op_catS : OpR X (binaryOp .Add) (fun x y H Q => ∃ l b xs zs, x = .ref l ∧ y = .ref b ∧ SqL X.K H l xs ∧ SqL X.K H b zs ∧ xs.length + zs.length ≤ sizeLine ∧ ∀ p, H p = none → Q (.ref p) (upd H p (.lst (xs ++ zs)))) := by
  intro pins s σ H x y v u Q I rx ry h
  obtain ⟨l, b, xs, zs, rfl, rfl, hH, hB, hz, q⟩ := h
  cases rx
  cases ry
  obtain ⟨its, r, p1, z1⟩ := I.list hH
  obtain ⟨its2, r2, p2, z2⟩ := I.list hB
  obtain ⟨m, F0⟩ := I.fr
  have l1 := r.length
  have l2 := r2.length
  obtain ⟨⟨cls, dd, data, sl⟩, n, ho, hc, hx, hd⟩ := p1
  obtain ⟨⟨cls2, dd2, data2, sl2⟩, n2, ho2, hc2, hx2, hd2⟩ := p2
  simp only at hc hx hd hc2 hx2 hd2
  subst hc hx hd hc2 hx2 hd2
  have e : its.toArray ++ its2.toArray = (its ++ its2).toArray := by simp
  refine concat_meets ⟨_, ho, rfl⟩ ⟨_, ho2, rfl⟩ noFill_list_add seq_list_add PySem.F.slot_list_add PySem.F.entry_list_add (PySem.F.args_list_add_2 _ _) (list_addW l b its.toArray its2.toArray n n2 none none sl sl2 (by simp only [List.size_toArray]; omega)) ⟨ho, ho2, ?_⟩
  rw [e]
  exact ⟨.ref _, _, I.lnew (t' := s.toks) (r.append r2) (by rw [List.length_append]; omega), rfl, q _ I.fresh⟩
theorem opv_add : OpV X (binaryOp .Add) pAdd := by
  intro pins s σ H x y v u Q I rx ry F d e r sf hx hy hg hq
  cases hx with
  | int i =>
    cases hy with
    | int j =>
      cases hg
      exact op_add pins s σ H _ _ v u Q I rx ry ⟨i, j, rfl, rfl, hq _ _ F (Ext.refl sf) (.int _)⟩
    | bl b =>
      cases hg
      exact op_add_ib pins s σ H _ _ v u Q I rx ry ⟨i, b, rfl, rfl, hq _ _ F (Ext.refl sf) (.int _)⟩
    | _ => cases hg
  | str x hx1 =>
    cases hy with
    | str y hy1 =>
      obtain ⟨hp, rfl⟩ := some_of_if hg
      refine op_add_str pins s σ H _ _ v u Q I rx ry ⟨x, y, rfl, rfl, hp, hq _ _ F (Ext.refl sf) (.str _ ?_)⟩
      show ((x.cps ++ y.cps).all _) = true
      have h1 : x.cps.all (fun c => decide (c < 0x110000)) = true := hx1
      have h2 : y.cps.all (fun c => decide (c < 0x110000)) = true := hy1
      rw [Array.all_append, h1, h2]
      rfl
    | _ => cases hg
  | lst h1 z1 a1 =>
    cases hy with
    | lst h2 z2 a2 =>
      obtain ⟨hp, rfl⟩ := some_of_if hg
      have l1 := a1.length
      have l2 := a2.length
      exact op_catS pins s σ H _ _ v u Q I rx ry ⟨_, _, _, _, rfl, rfl, sf.seq h1, sf.seq h2, by omega, new_lst sf (by rw [List.length_append]; omega) (a1.append a2) hq⟩
    | _ => cases hg
  | tup h1 z1 a1 =>
    cases hy with
    | tup h2 z2 a2 =>
      obtain ⟨hp, rfl⟩ := some_of_if hg
      have l1 := a1.length
      have l2 := a2.length
      refine op_catA pins s σ H _ _ v u Q I rx ry ⟨_, _, _, _, rfl, rfl, same_sqT sf h1, same_sqT sf h2, by omega, fun e => ?_, fun _ e => ?_, fun _ _ => new_tup sf (by rw [List.length_append]; omega) (a1.append a2) hq⟩
      · subst e
        cases a1
        exact hq _ _ F (Ext.refl sf) (.tup h2 z2 a2)
      · subst e
        cases a2
        rw [List.append_nil] at hq
        exact hq _ _ F (Ext.refl sf) (.tup h1 z1 a1)
    | _ => cases hg
  | _ => cases hg
theorem opv_sub : OpV X (binaryOp .Sub) pSub := opI2 (rI0_of op_sub) (fun _ _ _ => .int _) fun d e r h => by
  cases d <;> cases e <;> first | exact ⟨_, _, rfl, rfl, trivial, (Option.some.inj h).symm⟩ | cases h
theorem opv_mul : OpV X (binaryOp .Mult) pMul := opI2 op_mulA (fun _ _ _ => .int _) fun d e r h => by
  cases d <;> cases e <;> first | exact ⟨_, _, rfl, rfl, (some_of_if h).1, (some_of_if h).2.symm⟩ | cases h
theorem opv_div : OpV X (binaryOp .FloorDiv) pDiv := opI2 op_divA (fun _ _ _ => .int _) fun d e r h => by
  cases d <;> cases e <;> first | exact ⟨_, _, rfl, rfl, (some_of_if h).1, (some_of_if h).2.symm⟩ | cases h
theorem opv_mod : OpV X (binaryOp .Mod) pMod := opI2 op_modN (fun _ _ _ => .int _) fun d e r h => by
  cases d <;> cases e <;> first | exact ⟨_, _, rfl, rfl, (some_of_if h).1, (some_of_if h).2.symm⟩ | cases h
theorem opv_pow : OpV X (binaryOp .Pow) pPow := opI2 op_pow (fun _ _ _ => .int _) fun d e r h => by
  cases d <;> cases e <;> first | exact ⟨_, _, rfl, rfl, (some_of_if h).1, (some_of_if h).2.symm⟩ | cases h
theorem opv_shl : OpV X (binaryOp .LShift) pShl := opI2 op_shl (fun _ _ _ => .int _) fun d e r h => by
  cases d <;> cases e <;> first | exact ⟨_, _, rfl, rfl, (some_of_if h).1, (some_of_if h).2.symm⟩ | cases h
theorem opv_shr : OpV X (binaryOp .RShift) pShr := opI2 op_shr (fun _ _ _ => .int _) fun d e r h => by
  cases d <;> cases e <;> first | exact ⟨_, _, rfl, rfl, (some_of_if h).1, (some_of_if h).2.symm⟩ | cases h
theorem opv_and : OpV X (binaryOp .BitAnd) pAnd := opI2 (rI0_of op_and) (fun _ _ _ => .int _) fun d e r h => by
  cases d <;> cases e <;> first | exact ⟨_, _, rfl, rfl, trivial, (Option.some.inj h).symm⟩ | cases h
theorem opv_or : OpV X (binaryOp .BitOr) pOr := opI2 (rI0_of op_or) (fun _ _ _ => .int _) fun d e r h => by
  cases d <;> cases e <;> first | exact ⟨_, _, rfl, rfl, trivial, (Option.some.inj h).symm⟩ | cases h
theorem opv_lt : OpV X (compareOp .Lt) pLt := opI2 (rI0_of op_lt) (fun _ _ _ => .bl _) fun d e r h => by
  cases d <;> cases e <;> first | exact ⟨_, _, rfl, rfl, trivial, (Option.some.inj h).symm⟩ | cases h
theorem opv_le : OpV X (compareOp .LtE) pLe := opI2 (rI0_of op_le) (fun _ _ _ => .bl _) fun d e r h => by
  cases d <;> cases e <;> first | exact ⟨_, _, rfl, rfl, trivial, (Option.some.inj h).symm⟩ | cases h
theorem opv_gt : OpV X (compareOp .Gt) pGt := opI2 (rI0_of op_gt) (fun _ _ _ => .bl _) fun d e r h => by
  cases d <;> cases e <;> first | exact ⟨_, _, rfl, rfl, trivial, (Option.some.inj h).symm⟩ | cases h
theorem opv_ge : OpV X (compareOp .GtE) pGe := opI2 (rI0_of op_ge) (fun _ _ _ => .bl _) fun d e r h => by
  cases d <;> cases e <;> first | exact ⟨_, _, rfl, rfl, trivial, (Option.some.inj h).symm⟩ | cases h
/-- room for a comparison -/
theorem opv_eq {k : Nat} (hr : Room k X.A) : OpV X (compareOp .Eq) pEq := by
  intro pins s σ H x y v u Q I rx ry F d e r sf hx hy hg hq
  obtain ⟨hp, rfl⟩ := some_of_if hg
  have hx' := Vd.dp d x (Vd.mono sf d x hx)
  have hy' := Vd.dp e y (Vd.mono sf e y hy)
  obtain ⟨as, r1⟩ := Dp.reads I d x v hx'.1 rx
  obtain ⟨bs, r2⟩ := Dp.reads I e y u hy'.1 ry
  have hu := hr.units
  exact SeqAt.compareEq_reads r1 r2 hx'.2 hy'.2 (by rcases hp with h | h <;> omega) ⟨.bl _, H, I, rfl, hq _ _ F (Ext.refl sf) (.bl _)⟩
theorem opv_ne {k : Nat} (hr : Room k X.A) : OpV X (compareOp .NotEq) pNe := by
  intro pins s σ H x y v u Q I rx ry F d e r sf hx hy hg hq
  obtain ⟨hp, rfl⟩ := some_of_if hg
  have hx' := Vd.dp d x (Vd.mono sf d x hx)
  have hy' := Vd.dp e y (Vd.mono sf e y hy)
  obtain ⟨as, r1⟩ := Dp.reads I d x v hx'.1 rx
  obtain ⟨bs, r2⟩ := Dp.reads I e y u hy'.1 ry
  have hu := hr.units
  exact SeqAt.compareNe_reads r1 r2 hx'.2 hy'.2 (by rcases hp with h | h <;> omega) ⟨.bl _, H, I, rfl, hq _ _ F (Ext.refl sf) (.bl _)⟩
theorem isNone_of {F : Hp} {v : V} {d : PyData} (h : Vd X.K F v d) : decide (v = .non) = isNone d := by
  cases h <;> rfl
theorem opv_is : OpV X (compareOp .Is) pIsN := by
  intro pins s σ H x y v u Q I rx ry F d e r sf hx hy hg hq
  obtain ⟨hp, rfl⟩ := some_of_if hg
  have hn : y = .non := by cases hy <;> first | rfl | cases hp
  refine op_isN pins s σ H _ _ v u Q I rx ry ⟨hn, ?_⟩
  rw [isNone_of hx]
  exact hq _ _ F (Ext.refl sf) (.bl _)
theorem opv_isnot : OpV X (compareOp .IsNot) pIsNotN := by
  intro pins s σ H x y v u Q I rx ry F d e r sf hx hy hg hq
  obtain ⟨hp, rfl⟩ := some_of_if hg
  have hn : y = .non := by cases hy <;> first | rfl | cases hp
  refine op_notN pins s σ H _ _ v u Q I rx ry ⟨hn, ?_⟩
  rw [isNone_of hx]
  exact hq _ _ F (Ext.refl sf) (.bl _)
end
end PV
end
section
set_option Elab.async false
set_option linter.all false
set_option maxRecDepth 100000
set_option maxHeartbeats 4000000
namespace PV
open PySem PySem.Spec PyProof.Rows L2

/-! ### tests -/
def OutB (X : Cx) (P : Pm) (σ : Sg) (Q : Bool → Hp → Prop) (F H : Hp) (r : RE Bool) : Prop :=
  r.post (fun b => ∀ H' F', Ext F H F' H' → Q b H') (fun c _ => ∀ C H' F', X.mg c = some (.ref C) → Ext F H F' H' → P.W (.ref C) none σ H')
theorem OutB.step {X : Cx} {P : Pm} {σ : Sg} {Q : Bool → Hp → Prop} {F H F1 H1 : Hp} {r : RE Bool} (h : OutB X P σ Q F H r) (e : Ext F H F1 H1) : OutB X P σ Q F1 H1 r :=
  R.post_mono h (fun d q H' F' e' => q H' F' (e.trans e')) (fun c _ q C H' F' hm e' => q C H' F' hm (e.trans e'))
def tTV (X : Cx) (P : Pm) (f : Evn → RE Bool) : TT := fun σ H Q => ∃ ρ F, Rep X.K P ρ F σ H ∧ OutB X P σ Q F H (f ρ)
def VT (X : Cx) (P : Pm) (e : Expr) (f : Evn → RE Bool) : Prop := PT X e (tTV X P f)
def VW (X : Cx) (P : Pm) (e : Expr) (f : Evn → RE Bool) : Prop := PW X e (tTV X P f)
theorem PT_mono {X : Cx} {e : Expr} {t t' : TT} (h : PT X e t) (m : ∀ σ H Q, t' σ H Q → t σ H Q) : PT X e t' := ⟨fun pins s σ H Q I q => h.run pins s σ H Q I (m σ H Q q)⟩
theorem PW_mono {X : Cx} {e : Expr} {t t' : TT} (h : PW X e t) (m : ∀ σ H Q, t' σ H Q → t σ H Q) : PW X e t' := ⟨fun w pins s σ H Q I q => h.run w pins s σ H Q I (m σ H Q q)⟩
/-- a datum's truth -/
def truth : PyData → Option Bool
  | .none => some false
  | .bool b => some b
  | .int i => some (i != 0)
  | .str x => if x.length ≤ sizeLine then some ((x.length : Int) != 0) else none
  | .list xs => some (!xs.isEmpty)
  | .tuple xs => some (!xs.isEmpty)
  | .dict _ => none
def toB : PyData → Option Bool
  | .bool b => some b
  | _ => none
def mT (f : Evn → RE PyData) (ρ : Evn) : RE Bool := (f ρ).bind fun d => ofO (truth d)
def mB (f : Evn → RE PyData) (ρ : Evn) : RE Bool := (f ρ).bind fun d => ofO (toB d)
section
variable {X : Cx} {P : Pm} {pos : Pos} {a b c : Expr} {fa fb fc : Evn → RE PyData} {ga gb gc : Evn → RE Bool} {σ : Sg} {F H : Hp} {ρ : Evn}
theorem Out.firstB {f : Evn → RE PyData} {k : PyData → RE Bool} {Q : Bool → Hp → Prop} {Q' : VK} (hR : Rep X.K P ρ F σ H) (h : OutB X P σ Q F H ((f ρ).bind k))
    (hq : ∀ d v F1 H1, Ext F H F1 H1 → Vd X.K F1 v d → Rep X.K P ρ F1 σ H1 → OutB X P σ Q F1 H1 (k d) → Q' v H1) : tV X P f σ H Q' := by
  refine ⟨ρ, F, hR, ?_⟩
  exact R.post_mono (R.post_bind h) (fun d q v H' F' e hv => hq d v F' H' e hv (hR.step e) (OutB.step q e)) (fun c _ q => q)
theorem OutB.ofO {Q : Bool → Hp → Prop} {o : Option Bool} (h : OutB X P σ Q F H (ofO o)) : ∃ r, o = some r ∧ ∀ H' F', Ext F H F' H' → Q r H' := by
  cases o with
  | some r => exact ⟨r, rfl, h⟩
  | none => exact h.elim
theorem truV_of {F H : Hp} {v : V} {d : PyData} {k : Bool} (sf : Same F H) (h : Vd X.K F v d) (e : truth d = some k) : TruV X.K v H k := by
  cases h with
  | non => cases e; rfl
  | bl b => cases e; rfl
  | int i => cases e; rfl
  | str x hx =>
    obtain ⟨h1, rfl⟩ := some_of_if e
    exact ⟨h1, rfl⟩
  | lst hs hz ha =>
    cases e
    refine .inl ⟨_, sf.seq hs, ?_⟩
    cases ha <;> rfl
  | tup hs hz ha =>
    cases e
    refine .inr (.inl ⟨_, same_sqT sf hs, ?_⟩)
    cases ha <;> rfl
/-- an expression as a test, by its truth -/
theorem vt_truth (h : VE X P a fa) (he : ∀ whole, isTrue a X.env whole = (do let v ← whole; standAt a.pos; holding [v] (truthy v)) := by intro _; rfl) : VT X P a (mT fa) := PT_mono (pt_truth h he) fun σ H Q h => by
  obtain ⟨ρ, F, hR, h⟩ := h
  refine Out.firstB hR h fun d v F1 H1 e1 hv R1 h1 => ?_
  obtain ⟨r, hr, hq⟩ := h1.ofO
  exact ⟨r, truV_of R1.fh hv hr, hq H1 F1 (Ext.refl R1.fh)⟩
theorem rdB {t : TE} {f : Evn → RE PyData} {σ : Sg} {H : Hp} {Q : Bool → Hp → Prop} (m : ∀ Q, tV X P f σ H Q → t σ H Q) (h : tTV X P (mB f) σ H Q) : t σ H fun x H1 => ∃ c, x = .bl c ∧ Q c H1 := by
  obtain ⟨ρ, F, hR, h⟩ := h
  refine m _ (Out.firstB hR h fun d v F1 H1 e1 hv R1 h1 => ?_)
  obtain ⟨r, hr, hq⟩ := h1.ofO
  cases hv with
  | bl b => cases hr; exact ⟨r, rfl, hq H1 F1 (Ext.refl R1.fh)⟩
  | _ => cases hr
/-- a comparison as a test -/
theorem vt_cmp {op : CmpOp} {g : PyData → PyData → Option PyData} (ho : OpV X (compareOp op) g) (ha : VE X P a fa) (hb : VE X P b fb) (hm : behindInMarks op b = false := by first | exact nomark _ | rfl) : VT X P (.Compare a [op] [b] pos) (mB (m2 g fa fb)) :=
  PT_mono (pt_cmpR ho.r ha hb hm) fun σ H Q h => rdB (t := tOp (rV X g) (tV X P fa) (tV X P fb)) (fun Q => rd2) h
/-- and, or, not -/
def mAndB (fa fb : Evn → RE Bool) (ρ : Evn) : RE Bool := (fa ρ).bind fun c => if c then fb ρ else .ok false
def mOrB (fa fb : Evn → RE Bool) (ρ : Evn) : RE Bool := (fa ρ).bind fun c => if c then .ok true else fb ρ
def mNotB (fa : Evn → RE Bool) (ρ : Evn) : RE Bool := (fa ρ).bind fun c => .ok (!c)
theorem OutB.first {f : Evn → RE Bool} {k : Bool → RE Bool} {Q : Bool → Hp → Prop} {Q' : Bool → Hp → Prop} (hR : Rep X.K P ρ F σ H) (h : OutB X P σ Q F H ((f ρ).bind k))
    (hq : ∀ d F1 H1, Ext F H F1 H1 → Rep X.K P ρ F1 σ H1 → OutB X P σ Q F1 H1 (k d) → Q' d H1) : tTV X P f σ H Q' := by
  refine ⟨ρ, F, hR, ?_⟩
  exact R.post_mono (R.post_bind h) (fun d q H' F' e => hq d F' H' e (hR.step e) (OutB.step q e)) (fun c _ q => q)
variable {rest : List Expr}
theorem vw_and1 (ha : VT X P a ga) : VW X P (.BoolOp .And [a] pos) ga := pw_and1 ha
theorem vw_or1 (ha : VT X P a ga) : VW X P (.BoolOp .Or [a] pos) ga := pw_or1 ha
theorem vw_and (ha : VT X P a ga) (hb : VW X P (.BoolOp .And (b :: rest) pos) gb) : VW X P (.BoolOp .And (a :: b :: rest) pos) (mAndB ga gb) := PW_mono (pw_and ha hb) fun σ H Q h => by
  obtain ⟨ρ, F, hR, h⟩ := h
  refine OutB.first hR h fun d F1 H1 e R1 h1 => ?_
  cases d with
  | true => rw [if_pos rfl]; exact ⟨ρ, F1, R1, by simpa using h1⟩
  | false => rw [if_neg (by decide)]; exact h1 H1 F1 (Ext.refl R1.fh)
theorem vw_or (ha : VT X P a ga) (hb : VW X P (.BoolOp .Or (b :: rest) pos) gb) : VW X P (.BoolOp .Or (a :: b :: rest) pos) (mOrB ga gb) := PW_mono (pw_or ha hb) fun σ H Q h => by
  obtain ⟨ρ, F, hR, h⟩ := h
  refine OutB.first hR h fun d F1 H1 e R1 h1 => ?_
  cases d with
  | true => rw [if_pos rfl]; exact h1 H1 F1 (Ext.refl R1.fh)
  | false => rw [if_neg (by decide)]; exact ⟨ρ, F1, R1, by simpa using h1⟩
theorem VW.t (h : VW X P a ga) : VT X P a ga := PW.pt h
theorem vt_not (ha : VT X P a ga) : VT X P (.UnaryOp .Not a pos) (mNotB ga) := PT_mono (pt_not ha) fun σ H Q h => by
  obtain ⟨ρ, F, hR, h⟩ := h
  exact OutB.first hR h fun d F1 H1 e R1 h1 => h1 H1 F1 (Ext.refl R1.fh)
/-- .. as values, of bools -/
def mAnd (fa fb : Evn → RE PyData) (ρ : Evn) : RE PyData := (fa ρ).bind fun d => (ofO (toB d)).bind fun c => if c then fb ρ else .ok (.bool false)
def mOr (fa fb : Evn → RE PyData) (ρ : Evn) : RE PyData := (fa ρ).bind fun d => (ofO (toB d)).bind fun c => if c then .ok (.bool true) else fb ρ
def pNot : PyData → Option PyData
  | .bool b => some (.bool !b)
  | _ => none
def m1 (g : PyData → Option PyData) (fa : Evn → RE PyData) (ρ : Evn) : RE PyData := (fa ρ).bind fun d => ofO (g d)
theorem toB_of {F : Hp} {v : V} {d : PyData} (hv : Vd X.K F v d) {Q : VK} {k : Bool → RE PyData} (h : Out X P σ Q F H ((ofO (toB d)).bind k)) : ∃ c, v = .bl c ∧ Out X P σ Q F H (k c) := by
  cases hv with
  | bl b => exact ⟨b, rfl, h⟩
  | _ => exact h.elim
theorem ve_one {op : BoolOp} (h : VE X P a fa) : VE X P (.BoolOp op [a] pos) fa := pe_one h
theorem ve_and (ha : VE X P a fa) (hb : VE X P (.BoolOp .And (b :: rest) pos) fb) : VE X P (.BoolOp .And (a :: b :: rest) pos) (mAnd fa fb) := PE_mono (pe_and ha hb) fun σ H Q h => by
  obtain ⟨ρ, F, hR, h⟩ := h
  refine Out.first hR h fun d v F1 H1 e1 hv R1 h1 => ?_
  obtain ⟨c, rfl, h2⟩ := toB_of hv h1
  refine ⟨c, rfl, ?_⟩
  cases c with
  | true => rw [if_pos rfl]; exact ⟨ρ, F1, R1, by simpa using h2⟩
  | false => rw [if_neg (by decide)]; exact h2 _ H1 F1 (Ext.refl R1.fh) (.bl _)
theorem ve_or (ha : VE X P a fa) (hb : VE X P (.BoolOp .Or (b :: rest) pos) fb) : VE X P (.BoolOp .Or (a :: b :: rest) pos) (mOr fa fb) := PE_mono (pe_or ha hb) fun σ H Q h => by
  obtain ⟨ρ, F, hR, h⟩ := h
  refine Out.first hR h fun d v F1 H1 e1 hv R1 h1 => ?_
  obtain ⟨c, rfl, h2⟩ := toB_of hv h1
  refine ⟨c, rfl, ?_⟩
  cases c with
  | true => rw [if_pos rfl]; exact h2 _ H1 F1 (Ext.refl R1.fh) (.bl _)
  | false => rw [if_neg (by decide)]; exact ⟨ρ, F1, R1, by simpa using h2⟩
theorem ve_not (ha : VE X P a fa) : VE X P (.UnaryOp .Not a pos) (m1 pNot fa) := PE_mono (pe_not ha) fun σ H Q h => by
  obtain ⟨ρ, F, hR, h⟩ := h
  refine Out.first hR h fun d v F1 H1 e1 hv R1 h1 => ?_
  obtain ⟨r, hr, hq⟩ := h1.ofO
  cases hv with
  | bl b => cases hr; exact ⟨b, rfl, hq _ H1 F1 (Ext.refl R1.fh) (.bl _)⟩
  | _ => cases hr
def pNeg : PyData → Option PyData
  | .int i => some (.int (-i))
  | _ => none
theorem ve_neg (ha : VE X P a fa) : VE X P (.UnaryOp .USub a pos) (m1 pNeg fa) := PE_mono (pe_un un_neg ha) fun σ H Q h => by
  obtain ⟨ρ, F, hR, h⟩ := h
  refine Out.first hR h fun d v F1 H1 e1 hv R1 h1 => ?_
  obtain ⟨r, hr, hq⟩ := h1.ofO
  cases hv with
  | int b => cases hr; exact ⟨b, rfl, hq _ H1 F1 (Ext.refl R1.fh) (.int _)⟩
  | _ => cases hr
def mIf (fc : Evn → RE Bool) (fa fb : Evn → RE PyData) (ρ : Evn) : RE PyData := (fc ρ).bind fun c => if c then fa ρ else fb ρ
theorem OutB.firstV {f : Evn → RE Bool} {k : Bool → RE PyData} {Q : VK} {Q' : Bool → Hp → Prop} (hR : Rep X.K P ρ F σ H) (h : Out X P σ Q F H ((f ρ).bind k))
    (hq : ∀ d F1 H1, Ext F H F1 H1 → Rep X.K P ρ F1 σ H1 → Out X P σ Q F1 H1 (k d) → Q' d H1) : tTV X P f σ H Q' := by
  refine ⟨ρ, F, hR, ?_⟩
  exact R.post_mono (R.post_bind h) (fun d q H' F' e => hq d F' H' e (hR.step e) (Out.step q e)) (fun c _ q => q)
theorem ve_ifExp (hc : VT X P c gc) (ha : VE X P a fa) (hb : VE X P b fb) : VE X P (.IfExp c a b pos) (mIf gc fa fb) := PE_mono (pe_ifExp hc ha hb) fun σ H Q h => by
  obtain ⟨ρ, F, hR, h⟩ := h
  refine OutB.firstV hR h fun d F1 H1 e R1 h1 => ?_
  cases d with
  | true => rw [if_pos rfl]; exact ⟨ρ, F1, R1, by simpa using h1⟩
  | false => rw [if_neg (by decide)]; exact ⟨ρ, F1, R1, by simpa using h1⟩
/-- a op b op' c -/
def mChain (g g' : PyData → PyData → Option PyData) (fa fb fc : Evn → RE PyData) (ρ : Evn) : RE PyData :=
  (fa ρ).bind fun x => (fb ρ).bind fun y => (ofO (g x y)).bind fun z => (ofO (toB z)).bind fun k => if k then (fc ρ).bind fun w => ofO (g' y w) else .ok (.bool false)
theorem rdChain {g g' : PyData → PyData → Option PyData} {σ : Sg} {H : Hp} {Q : VK} (h : tV X P (mChain g g' fa fb fc) σ H Q) : tChain (rV X g) (rV X g') (tV X P fa) (tV X P fb) (tV X P fc) σ H Q := by
  obtain ⟨ρ, F, hR, h⟩ := h
  refine Out.first hR h fun d v F1 H1 e1 hv R1 h1 => ?_
  refine Out.first R1 h1 fun d2 v2 F2 H2 e2 hv2 R2 h2 => ?_
  cases hg : g d d2 with
  | none => rw [hg] at h2; exact h2.elim
  | some z =>
    rw [hg] at h2
    refine ⟨F2, d, d2, z, R2.fh, Vd.mono e2.ff d v hv, hv2, hg, fun v' H' F' e3 hv3 => ?_⟩
    obtain ⟨k, rfl, h3⟩ := toB_of hv3 (Out.step h2 e3)
    refine ⟨k, rfl, ?_⟩
    have R3 := R2.step e3
    cases k with
    | false => rw [if_neg (by decide)]; exact h3 _ H' F' (Ext.refl R3.fh) (.bl _)
    | true =>
      rw [if_pos rfl]
      have h3' : Out X P σ Q F' H' ((fc ρ).bind fun w => ofO (g' d2 w)) := h3
      refine Out.first R3 h3' fun d3 v3 F3 H3 e4 hv4 R4 h4 => ?_
      obtain ⟨r, hr, hq⟩ := h4.ofO
      exact ⟨F3, d2, d3, r, R4.fh, Vd.mono e4.ff d2 v2 (Vd.mono e3.ff d2 v2 hv2), hv4, hr, hq⟩
theorem ve_chain {op op' : CmpOp} {g g' : PyData → PyData → Option PyData} (ho : OpV X (compareOp op) g) (ho' : OpV X (compareOp op') g') (ha : VE X P a fa) (hb : VE X P b fb) (hc : VE X P c fc)
    (hm : lastMarks [op, op'] [b, c] = false := by with_unfolding_all rfl) : VE X P (.Compare a [op, op'] [b, c] pos) (mChain g g' fa fb fc) := PE_mono (pe_chain ho.r ho'.r ha hb hc hm) fun _ _ _ h => rdChain h
theorem vt_chain {op op' : CmpOp} {g g' : PyData → PyData → Option PyData} (ho : OpV X (compareOp op) g) (ho' : OpV X (compareOp op') g') (ha : VE X P a fa) (hb : VE X P b fb) (hc : VE X P c fc)
    (hm : lastMarks [op, op'] [b, c] = false := by with_unfolding_all rfl) : VT X P (.Compare a [op, op'] [b, c] pos) (mB (mChain g g' fa fb fc)) :=
  PT_mono (pt_chain ho.r ho'.r ha hb hc hm) fun σ H Q h => rdB (t := tChain (rV X g) (rV X g') (tV X P fa) (tV X P fb) (tV X P fc)) (fun Q => rdChain) h
end

/-! ### argument lists, displays -/
def OutA (X : Cx) (P : Pm) (σ : Sg) (Q : List V → Hp → Prop) (F H : Hp) (r : RE (List PyData)) : Prop :=
  r.post (fun ds => ∀ vs H' F', Ext F H F' H' → VdAll X.K F' vs ds → Q vs H') (fun c _ => ∀ C H' F', X.mg c = some (.ref C) → Ext F H F' H' → P.W (.ref C) none σ H')
theorem OutA.step {X : Cx} {P : Pm} {σ : Sg} {Q : List V → Hp → Prop} {F H F1 H1 : Hp} {r : RE (List PyData)} (h : OutA X P σ Q F H r) (e : Ext F H F1 H1) : OutA X P σ Q F1 H1 r :=
  R.post_mono h (fun d q v H' F' e' hv => q v H' F' (e.trans e') hv) (fun c _ q C H' F' hm e' => q C H' F' hm (e.trans e'))
def tAV (X : Cx) (P : Pm) (f : Evn → RE (List PyData)) : TA := fun σ H Q => ∃ ρ F, Rep X.K P ρ F σ H ∧ OutA X P σ Q F H (f ρ)
def VA (X : Cx) (P : Pm) (es : List Expr) (f : Evn → RE (List PyData)) : Prop := PA X es (tAV X P f)
theorem PA_mono {X : Cx} {e : List Expr} {t t' : TA} (h : PA X e t) (m : ∀ σ H Q, t' σ H Q → t σ H Q) : PA X e t' := ⟨fun pos pins s σ H Q I q => h.run pos pins s σ H Q I (m σ H Q q)⟩
def mNil (_ : Evn) : RE (List PyData) := .ok []
def mCons (f : Evn → RE PyData) (g : Evn → RE (List PyData)) (ρ : Evn) : RE (List PyData) := (f ρ).bind fun d => (g ρ).bind fun ds => .ok (d :: ds)
def mSeq (k : List PyData → RE PyData) (g : Evn → RE (List PyData)) (ρ : Evn) : RE PyData := (g ρ).bind k
section
variable {X : Cx} {P : Pm} {pos : Pos} {e : Expr} {es : List Expr} {f : Evn → RE PyData} {g : Evn → RE (List PyData)} {σ : Sg} {F H : Hp} {ρ : Evn}
theorem Out.firstA {f : Evn → RE PyData} {k : PyData → RE (List PyData)} {Q : List V → Hp → Prop} {Q' : VK} (hR : Rep X.K P ρ F σ H) (h : OutA X P σ Q F H ((f ρ).bind k))
    (hq : ∀ d v F1 H1, Ext F H F1 H1 → Vd X.K F1 v d → Rep X.K P ρ F1 σ H1 → OutA X P σ Q F1 H1 (k d) → Q' v H1) : tV X P f σ H Q' := by
  refine ⟨ρ, F, hR, ?_⟩
  exact R.post_mono (R.post_bind h) (fun d q v H' F' e hv => hq d v F' H' e hv (hR.step e) (OutA.step q e)) (fun c _ q => q)
theorem OutA.first {f : Evn → RE (List PyData)} {k : List PyData → RE (List PyData)} {Q : List V → Hp → Prop} {Q' : List V → Hp → Prop} (hR : Rep X.K P ρ F σ H) (h : OutA X P σ Q F H ((f ρ).bind k))
    (hq : ∀ d v F1 H1, Ext F H F1 H1 → VdAll X.K F1 v d → Rep X.K P ρ F1 σ H1 → OutA X P σ Q F1 H1 (k d) → Q' v H1) : tAV X P f σ H Q' := by
  refine ⟨ρ, F, hR, ?_⟩
  exact R.post_mono (R.post_bind h) (fun d q v H' F' e hv => hq d v F' H' e hv (hR.step e) (OutA.step q e)) (fun c _ q => q)
theorem OutA.firstV {f : Evn → RE (List PyData)} {k : List PyData → RE PyData} {Q : VK} {Q' : List V → Hp → Prop} (hR : Rep X.K P ρ F σ H) (h : Out X P σ Q F H ((f ρ).bind k))
    (hq : ∀ d v F1 H1, Ext F H F1 H1 → VdAll X.K F1 v d → Rep X.K P ρ F1 σ H1 → Out X P σ Q F1 H1 (k d) → Q' v H1) : tAV X P f σ H Q' := by
  refine ⟨ρ, F, hR, ?_⟩
  exact R.post_mono (R.post_bind h) (fun d q v H' F' e hv => hq d v F' H' e hv (hR.step e) (Out.step q e)) (fun c _ q => q)
theorem va_nil : VA X P [] mNil := PA_mono pa_nil fun σ H Q h => by
  obtain ⟨ρ, F, hR, h⟩ := h
  exact h [] H F (Ext.refl hR.fh) .nil
theorem va_cons (he : VE X P e f) (hr : VA X P es g) (hs : starEach (e :: es) X.env = (false, eval e X.env) :: starEach es X.env := by rfl) : VA X P (e :: es) (mCons f g) := PA_mono (pa_cons he hr hs) fun σ H Q h => by
  obtain ⟨ρ, F, hR, h⟩ := h
  refine Out.firstA hR h fun d v F1 H1 e1 hv R1 h1 => ?_
  refine OutA.first R1 h1 fun ds vs F2 H2 e2 hvs R2 h2 => ?_
  exact h2 _ H2 F2 (Ext.refl R2.fh) (.cons (Vd.mono e2.ff d v hv) hvs)
def mTup (ds : List PyData) : RE PyData := if ds.length ≤ sizeLine then .ok (.tuple ds) else .bad
def mLst (ds : List PyData) : RE PyData := if ds.length ≤ sizeLine then .ok (.list ds) else .bad
theorem Out.ite {Q : VK} {p : Prop} [Decidable p] {d : PyData} (h : Out X P σ Q F H (if p then .ok d else .bad)) : p ∧ ∀ v H' F', Ext F H F' H' → Vd X.K F' v d → Q v H' := by
  by_cases hp : p
  · rw [if_pos hp] at h; exact ⟨hp, h⟩
  · rw [if_neg hp] at h; exact h.elim
theorem ve_tup {k : Nat} (h : VA X P es g) : VE X P (.Tuple es k pos) (mSeq mTup g) := PE_mono (pe_tup h) fun σ H Q h => by
  obtain ⟨ρ, F, hR, h⟩ := h
  refine OutA.firstV hR h fun ds vs F1 H1 e1 hv R1 h1 => ?_
  obtain ⟨hp, hq⟩ := Out.ite h1
  have hl := hv.length
  exact ⟨by omega, new_tup R1.fh (by omega) hv hq⟩
theorem ve_lst (h : VA X P es g) : VE X P (.List es pos) (mSeq mLst g) := PE_mono (pe_lst h) fun σ H Q h => by
  obtain ⟨ρ, F, hR, h⟩ := h
  refine OutA.firstV hR h fun ds vs F1 H1 e1 hv R1 h1 => ?_
  obtain ⟨hp, hq⟩ := Out.ite h1
  have hl := hv.length
  exact ⟨by omega, new_lst R1.fh (by omega) hv hq⟩
end

/-! ### subscripts -/
def pIdx : PyData → PyData → Option PyData
  | .list ds, .int i => atI ds i
  | .tuple ds, .int i => atI ds i
  | .str x, .int i => if x.length ≤ sizeLine then (atI x.cps.toList i).map fun c => .str ⟨#[c]⟩ else none
  | _, _ => none
theorem VdAll.at {K : PySem.W.Frag} {F : Hp} {vs : List V} {ds : List PyData} {i : Int} {d : PyData} (h : VdAll K F vs ds) (e : atI ds i = some d) : ∃ v, atI vs i = some v ∧ Vd K F v d := by
  unfold atI at e ⊢
  rw [h.length]
  cases q : ixN ds.length i with
  | none => rw [q] at e; cases e
  | some j =>
    rw [q] at e
    obtain ⟨v, h1, h2⟩ := h.get (i := j) (d := d) e
    exact ⟨v, h1, h2⟩
theorem strOk_at {x : Str} {i : Int} {c : Nat} (h : PyData.strOk x = true) (e : atI x.cps.toList i = some c) : PyData.strOk ⟨#[c]⟩ = true := by
  unfold atI at e
  cases q : ixN x.cps.toList.length i with
  | none => rw [q] at e; cases e
  | some j =>
    rw [q] at e
    have e' : x.cps.toList[j]? = some c := e
    have hm : c ∈ x.cps.toList := List.mem_of_getElem? e'
    have h' : x.cps.all (fun c => decide (c < 0x110000)) = true := h
    rw [← Array.all_toList] at h'
    have h2 := List.all_eq_true.mp h' c hm
    show (#[c] : Array Nat).all (fun c => decide (c < 0x110000)) = true
    simpa using h2
section
variable {X : Cx} {P : Pm} {pos p2 : Pos} {a b : Expr} {fa fb : Evn → RE PyData}
theorem ix_all : IxR X (rV X pIdx) := by
  intro value slice pins s σ H x y v u Q I rx ry h hs
  obtain ⟨F, d, e, r, sf, hx, hy, hg, hq⟩ := h
  cases hx with
  | lst h1 z1 a1 =>
    cases hy with
    | int i =>
      obtain ⟨w, h2, h3⟩ := a1.at hg
      exact ix_list value slice pins s σ H _ _ v u Q I rx ry ⟨_, _, i, w, rfl, rfl, sf.seq h1, h2, hq _ _ F (Ext.refl sf) h3⟩ hs
    | _ => cases hg
  | tup h1 z1 a1 =>
    cases hy with
    | int i =>
      obtain ⟨w, h2, h3⟩ := a1.at hg
      exact ix_tup value slice pins s σ H _ _ v u Q I rx ry ⟨_, _, i, w, rfl, rfl, same_sqT sf h1, h2, hq _ _ F (Ext.refl sf) h3⟩ hs
    | _ => cases hg
  | str x hx1 =>
    cases hy with
    | int i =>
      obtain ⟨hz, hg⟩ : x.length ≤ sizeLine ∧ (atI x.cps.toList i).map (fun c => PyData.str ⟨#[c]⟩) = some r := by
        have hg' : (if x.length ≤ sizeLine then (atI x.cps.toList i).map fun c => PyData.str ⟨#[c]⟩ else none) = some r := hg
        by_cases hp : x.length ≤ sizeLine
        · rw [if_pos hp] at hg'; exact ⟨hp, hg'⟩
        · rw [if_neg hp] at hg'; cases hg'
      cases q : atI x.cps.toList i with
      | none => rw [q] at hg; cases hg
      | some c =>
        rw [q] at hg
        cases hg
        exact ix_str value slice pins s σ H _ _ v u Q I rx ry ⟨x, i, c, rfl, rfl, hz, q, hq _ _ F (Ext.refl sf) (.str _ (strOk_at hx1 q))⟩ hs
    | _ => cases hg
  | _ => cases hg
theorem ve_ix (ha : VE X P a fa) (hb : VE X P b fb) (hs : PlainIx b := by first | exact (fun _ _ => rfl) | (intro _ _; rfl)) : VE X P (.Subscript a b pos) (m2 pIdx fa fb) := PE_mono (pe_ix ix_all ha hb hs) fun _ _ _ h => rd2 h
/-! slices -/
def cutA {α : Type} (xs : List α) (lo hi : Option Int) : List α := (xs.drop (HT.sIx xs.length 0 lo)).take (HT.sIx xs.length xs.length hi - HT.sIx xs.length 0 lo)
theorem VdAll.cut {K : PySem.W.Frag} {F : Hp} {vs : List V} {ds : List PyData} (h : VdAll K F vs ds) (lo hi : Option Int) : VdAll K F (cutV vs lo hi) (cutA ds lo hi) := by
  unfold cutV cutA
  rw [h.length]
  exact (h.drop _).take _
def OutO (X : Cx) (P : Pm) (σ : Sg) (Q : Option Int → Hp → Prop) (F H : Hp) (r : RE (Option Int)) : Prop :=
  r.post (fun o => ∀ H' F', Ext F H F' H' → Q o H') (fun c _ => ∀ C H' F', X.mg c = some (.ref C) → Ext F H F' H' → P.W (.ref C) none σ H')
theorem OutO.step {σ : Sg} {Q : Option Int → Hp → Prop} {F H F1 H1 : Hp} {r : RE (Option Int)} (h : OutO X P σ Q F H r) (e : Ext F H F1 H1) : OutO X P σ Q F1 H1 r :=
  R.post_mono h (fun d q H' F' e' => q H' F' (e.trans e')) (fun c _ q C H' F' hm e' => q C H' F' hm (e.trans e'))
def tOV (X : Cx) (P : Pm) (f : Evn → RE (Option Int)) : TO := fun σ H Q => ∃ ρ F, Rep X.K P ρ F σ H ∧ OutO X P σ Q F H (f ρ)
def VO (X : Cx) (P : Pm) (e : Option Expr) (f : Evn → RE (Option Int)) : Prop := PO X e (tOV X P f)
theorem PO_mono {X : Cx} {e : Option Expr} {t t' : TO} (h : PO X e t) (m : ∀ σ H Q, t' σ H Q → t σ H Q) : PO X e t' := ⟨fun pins s σ H Q I q => h.run pins s σ H Q I (m σ H Q q)⟩
def mNo (_ : Evn) : RE (Option Int) := .ok none
def toI : PyData → Option Int
  | .int i => some i
  | _ => none
def mPart (f : Evn → RE PyData) (ρ : Evn) : RE (Option Int) := (f ρ).bind fun d => (ofO (toI d)).bind fun i => .ok (some i)
theorem vo_none : VO X P none mNo := PO_mono po_none fun σ H Q h => by
  obtain ⟨ρ, F, hR, h⟩ := h
  exact h H F (Ext.refl hR.fh)
theorem Out.firstO {σ : Sg} {F H : Hp} {ρ : Evn} {f : Evn → RE PyData} {k : PyData → RE (Option Int)} {Q : Option Int → Hp → Prop} {Q' : VK} (hR : Rep X.K P ρ F σ H) (h : OutO X P σ Q F H ((f ρ).bind k))
    (hq : ∀ d v F1 H1, Ext F H F1 H1 → Vd X.K F1 v d → Rep X.K P ρ F1 σ H1 → OutO X P σ Q F1 H1 (k d) → Q' v H1) : tV X P f σ H Q' := by
  refine ⟨ρ, F, hR, ?_⟩
  exact R.post_mono (R.post_bind h) (fun d q v H' F' e hv => hq d v F' H' e hv (hR.step e) (OutO.step q e)) (fun c _ q => q)
theorem OutO.firstV {σ : Sg} {F H : Hp} {ρ : Evn} {f : Evn → RE (Option Int)} {k : Option Int → RE PyData} {Q : VK} {Q' : Option Int → Hp → Prop} (hR : Rep X.K P ρ F σ H) (h : Out X P σ Q F H ((f ρ).bind k))
    (hq : ∀ d F1 H1, Ext F H F1 H1 → Rep X.K P ρ F1 σ H1 → Out X P σ Q F1 H1 (k d) → Q' d H1) : tOV X P f σ H Q' := by
  refine ⟨ρ, F, hR, ?_⟩
  exact R.post_mono (R.post_bind h) (fun d q H' F' e => hq d F' H' e (hR.step e) (Out.step q e)) (fun c _ q => q)
theorem vo_some (h : VE X P a fa) : VO X P (some a) (mPart fa) := PO_mono (po_some h) fun σ H Q h => by
  obtain ⟨ρ, F, hR, h⟩ := h
  refine Out.firstO hR h fun d v F1 H1 e1 hv R1 h1 => ?_
  cases hv with
  | int i => exact ⟨i, rfl, h1 H1 F1 (Ext.refl R1.fh)⟩
  | _ => exact h1.elim
def pCut (d : PyData) (lo hi : Option Int) : Option PyData := match d with
  | .list ds => some (.list (cutA ds lo hi))
  | .tuple ds => some (.tuple (cutA ds lo hi))
  | _ => none
def mCut (f : Evn → RE PyData) (l h : Evn → RE (Option Int)) (ρ : Evn) : RE PyData := (f ρ).bind fun d => (l ρ).bind fun lo => (h ρ).bind fun hi => ofO (pCut d lo hi)
def rCutV (X : Cx) : V → Option Int → Option Int → Hp → VK → Prop := fun x lo hi H Q => ∃ F d r, Same F H ∧ Vd X.K F x d ∧ pCut d lo hi = some r ∧ ∀ v' H' F', Ext F H F' H' → Vd X.K F' v' r → Q v' H'
theorem sl_all : SlR X (rCutV X) := by
  intro pins s σ H x v vl vu lo hi sl Q I rx hs pl pu h
  obtain ⟨F, d, r, sf, hx, hg, hq⟩ := h
  cases hx with
  | lst h1 z1 a1 =>
    cases hg
    exact sl_list pins s σ H _ v vl vu lo hi sl Q I rx hs pl pu ⟨_, _, rfl, sf.seq h1, new_lst sf (Nat.le_trans (cutV_length _ lo hi) z1) (a1.cut lo hi) hq⟩
  | @tup a xs ds h1 z1 a1 =>
    cases hg
    refine sl_tupA pins s σ H _ v vl vu lo hi sl Q I rx hs pl pu ⟨_, _, rfl, same_sqT sf h1, fun e => ?_, fun _ => new_tup sf (Nat.le_trans (cutV_length _ lo hi) z1) (a1.cut lo hi) hq⟩
    refine hq _ _ F (Ext.refl sf) (.tup h1 z1 ?_)
    have e2 : cutA ds lo hi = ds := by
      have hl := a1.length
      unfold cutA
      rw [← hl, e.1, e.2, List.drop_zero, Nat.sub_zero, hl, List.take_length]
    rw [e2]
    exact a1
  | _ => cases hg
theorem ve_cut {lo hi : Option Expr} {l h : Evn → RE (Option Int)} (ha : VE X P a fa) (hl : VO X P lo l) (hh : VO X P hi h) : VE X P (.Subscript a (.Slice lo hi none p2) pos) (mCut fa l h) := PE_mono (pe_slice sl_all ha hl hh) fun σ H Q h => by
  obtain ⟨ρ, F, hR, h⟩ := h
  refine Out.first hR h fun d v F1 H1 e1 hv R1 h1 => ?_
  refine OutO.firstV R1 h1 fun lo F2 H2 e2 R2 h2 => ?_
  refine OutO.firstV R2 h2 fun hi F3 H3 e3 R3 h3 => ?_
  obtain ⟨r, hr, hq⟩ := h3.ofO
  exact ⟨F3, d, r, R3.fh, Vd.mono (e2.trans e3).ff d v hv, hr, hq⟩
end
end PV
end
section
set_option Elab.async false
set_option linter.all false
set_option maxRecDepth 100000
set_option maxHeartbeats 4000000
namespace PV
open PySem PySem.Spec PyProof.Rows L2

/-! ### built-in functions by data -/
def rCV (X : Cx) (g : List PyData → Option PyData) : List V → Hp → VK → Prop := fun xs H Q => ∃ F ds r, Same F H ∧ VdAll X.K F xs ds ∧ g ds = some r ∧ ∀ v' H' F', Ext F H F' H' → Vd X.K F' v' r → Q v' H'
def mCall (g : List PyData → Option PyData) (fa : Evn → RE (List PyData)) (ρ : Evn) : RE PyData := (fa ρ).bind fun ds => ofO (g ds)
section
variable {X : Cx} {P : Pm} {pos p : Pos} {e : Expr} {es : List Expr} {fa : Evn → RE (List PyData)} {g : List PyData → Option PyData} {x : Str} {id T : String}
theorem rdCall {σ : Sg} {H : Hp} {Q : VK} (h : tV X P (mCall g fa) σ H Q) : tCB (rCV X g) (tAV X P fa) σ H Q := by
  obtain ⟨ρ, F, hR, h⟩ := h
  refine OutA.firstV hR h fun ds vs F1 H1 e1 hv R1 h1 => ?_
  obtain ⟨r, hr, hq⟩ := h1.ofO
  exact ⟨F1, ds, r, R1.fh, hv, hr, hq⟩
theorem ve_callB (hc : CallR X (.builtin id) (rCV X g)) (hg : Gl X x) (hm : X.mg x = none) (hv : bootBuiltins x = some (.builtin id)) (ha : VA X P (e :: es) fa) (hn : x ≠ "__name__" := by decide) (hdb : (x == ("__debug__" : Str)) = false := by decide)
    (he : starEach (e :: es) X.env = (false, eval e X.env) :: starEach es X.env := by rfl) (hpl : (backTo pos (starEach es X.env)).any (·.1) = false := by rfl) : VE X P (.Call (.Name x p) (e :: es) [] pos) (mCall g fa) :=
  PE_mono (pe_callB hc hg hm hv ha hn hdb he hpl) fun _ _ _ h => rdCall h
theorem ve_callTy (hc : CallR X (.type T) (rCV X g)) (hg : Gl X x) (hm : X.mg x = none) (hv : bootBuiltins x = some (.type T)) (ha : VA X P (e :: es) fa) (hn : x ≠ "__name__" := by decide) (hdb : (x == ("__debug__" : Str)) = false := by decide)
    (he : starEach (e :: es) X.env = (false, eval e X.env) :: starEach es X.env := by rfl) (hpl : (backTo pos (starEach es X.env)).any (·.1) = false := by rfl) : VE X P (.Call (.Name x p) (e :: es) [] pos) (mCall g fa) :=
  PE_mono (pe_callTy hc hg hm hv ha hn hdb he hpl) fun _ _ _ h => rdCall h
/-- a module's name for a built-in function (gcd) -/
theorem ve_callBfun (hc : CallR X (.builtin id) (rCV X g)) (hg : Gl X x) (hm : X.mg x = some (.builtin id)) (ha : VA X P (e :: es) fa) (hdb : (x == ("__debug__" : Str)) = false := by decide)
    (he : starEach (e :: es) X.env = (false, eval e X.env) :: starEach es X.env := by rfl) (hpl : (backTo pos (starEach es X.env)).any (·.1) = false := by rfl) : VE X P (.Call (.Name x p) (e :: es) [] pos) (mCall g fa) :=
  PE_mono (pe_callBfun hc hg hm ha hdb he hpl) fun _ _ _ h => rdCall h
end

/-! the meanings -/
def bLen : List PyData → Option PyData
  | [.list ds] => some (.int ds.length)
  | [.tuple ds] => some (.int ds.length)
  | [.str x] => if x.length ≤ sizeLine then some (.int x.length) else none
  | _ => none
def bInt : List PyData → Option PyData
  | [.int i] => some (.int i)
  | [.bool b] => some (.int (if b then 1 else 0))
  | _ => none
def bAbs : List PyData → Option PyData
  | [.int i] => some (.int (if i < 0 then -i else i))
  | _ => none
def bGcd : List PyData → Option PyData
  | [.int a, .int b] => some (.int ((Nat.gcd a.natAbs b.natAbs : Nat) : Int))
  | _ => none
def ints? : List PyData → Option (List Int)
  | [] => some []
  | .int i :: r => (ints? r).map (i :: ·)
  | _ => none
def bools? : List PyData → Option (List Bool)
  | [] => some []
  | .bool i :: r => (bools? r).map (i :: ·)
  | _ => none
theorem ints?_map (ns : List Int) : ints? (ns.map .int) = some ns := by
  induction ns with
  | nil => rfl
  | cons n r ih => simp only [List.map_cons, ints?, ih, Option.map_some]
theorem bools?_map (ns : List Bool) : bools? (ns.map .bool) = some ns := by
  induction ns with
  | nil => rfl
  | cons n r ih => simp only [List.map_cons, bools?, ih, Option.map_some]
theorem ints?_eq : ∀ {ds : List PyData} {ns : List Int}, ints? ds = some ns → ds = ns.map .int
  | [], _, h => by cases h; rfl
  | .int i :: r, ns, h => by
    cases q : ints? r with
    | none => simp [ints?, q] at h
    | some ms =>
      simp only [ints?, q, Option.map_some, Option.some.injEq] at h
      subst h
      rw [ints?_eq q]; rfl
  | .none :: r, _, h => nomatch h
  | .bool _ :: r, _, h => nomatch h
  | .str _ :: r, _, h => nomatch h
  | .list _ :: r, _, h => nomatch h
  | .tuple _ :: r, _, h => nomatch h
  | .dict _ :: r, _, h => nomatch h
theorem bools?_eq : ∀ {ds : List PyData} {ns : List Bool}, bools? ds = some ns → ds = ns.map .bool
  | [], _, h => by cases h; rfl
  | .bool i :: r, ns, h => by
    cases q : bools? r with
    | none => simp [bools?, q] at h
    | some ms =>
      simp only [bools?, q, Option.map_some, Option.some.injEq] at h
      subst h
      rw [bools?_eq q]; rfl
  | .none :: r, _, h => nomatch h
  | .int _ :: r, _, h => nomatch h
  | .str _ :: r, _, h => nomatch h
  | .list _ :: r, _, h => nomatch h
  | .tuple _ :: r, _, h => nomatch h
  | .dict _ :: r, _, h => nomatch h
theorem VdAll.ints {K : PySem.W.Frag} {F : Hp} : ∀ {ns : List Int} {vs : List V}, VdAll K F vs (ns.map .int) → vs = ns.map V.int
  | [], _, h => by cases h; rfl
  | n :: r, _, h => by
    cases h with
    | cons h1 h2 => cases h1; rw [VdAll.ints h2]; rfl
theorem VdAll.bools {K : PySem.W.Frag} {F : Hp} : ∀ {ns : List Bool} {vs : List V}, VdAll K F vs (ns.map .bool) → vs = ns.map V.bl
  | [], _, h => by cases h; rfl
  | n :: r, _, h => by
    cases h with
    | cons h1 h2 => cases h1; rw [VdAll.bools h2]; rfl
def bSum : List PyData → Option PyData
  | [.list ds] => (ints? ds).map fun ns => .int ns.sum
  | _ => none
def bAny : List PyData → Option PyData
  | [.list ds] => (bools? ds).map fun ns => .bool (ns.any id)
  | _ => none
def bAll : List PyData → Option PyData
  | [.list ds] => (bools? ds).map fun ns => .bool (ns.all id)
  | _ => none
/-- the greatest, the least -/
def lmax : List Int → Option Int
  | [] => none
  | n :: r => some (r.foldl max n)
def lmin : List Int → Option Int
  | [] => none
  | n :: r => some (r.foldl min n)
theorem foldl_max (r : List Int) : ∀ n : Int, (r.foldl max n = n ∨ r.foldl max n ∈ r) ∧ n ≤ r.foldl max n ∧ ∀ y ∈ r, y ≤ r.foldl max n := by
  induction r with
  | nil => intro n; simp
  | cons a r ih =>
    intro n
    obtain ⟨h1, h2, h3⟩ := ih (max n a)
    simp only [List.foldl_cons]
    refine ⟨?_, by omega, fun y hy => ?_⟩
    · rcases h1 with h1 | h1
      · rw [h1]
        rcases Int.le_total n a with q | q
        · right; rw [Int.max_eq_right q]; exact List.mem_cons_self
        · left; exact Int.max_eq_left q
      · right; exact List.mem_cons_of_mem _ h1
    · rcases List.mem_cons.mp hy with rfl | hy
      · omega
      · exact h3 y hy
theorem foldl_min (r : List Int) : ∀ n : Int, (r.foldl min n = n ∨ r.foldl min n ∈ r) ∧ r.foldl min n ≤ n ∧ ∀ y ∈ r, r.foldl min n ≤ y := by
  induction r with
  | nil => intro n; simp
  | cons a r ih =>
    intro n
    obtain ⟨h1, h2, h3⟩ := ih (min n a)
    simp only [List.foldl_cons]
    refine ⟨?_, by omega, fun y hy => ?_⟩
    · rcases h1 with h1 | h1
      · rw [h1]
        rcases Int.le_total n a with q | q
        · left; exact Int.min_eq_left q
        · right; rw [Int.min_eq_right q]; exact List.mem_cons_self
      · right; exact List.mem_cons_of_mem _ h1
    · rcases List.mem_cons.mp hy with rfl | hy
      · omega
      · exact h3 y hy
theorem lmax_mem {ns : List Int} {m : Int} (h : lmax ns = some m) : m ∈ ns ∧ ∀ y ∈ ns, y ≤ m := by
  cases ns with
  | nil => cases h
  | cons n r =>
    cases h
    obtain ⟨h1, h2, h3⟩ := foldl_max r n
    refine ⟨?_, fun y hy => ?_⟩
    · rcases h1 with q | q
      · rw [q]; exact List.mem_cons_self
      · exact List.mem_cons_of_mem _ q
    · rcases List.mem_cons.mp hy with rfl | hy
      · exact h2
      · exact h3 y hy
theorem lmin_mem {ns : List Int} {m : Int} (h : lmin ns = some m) : m ∈ ns ∧ ∀ y ∈ ns, m ≤ y := by
  cases ns with
  | nil => cases h
  | cons n r =>
    cases h
    obtain ⟨h1, h2, h3⟩ := foldl_min r n
    refine ⟨?_, fun y hy => ?_⟩
    · rcases h1 with q | q
      · rw [q]; exact List.mem_cons_self
      · exact List.mem_cons_of_mem _ q
    · rcases List.mem_cons.mp hy with rfl | hy
      · exact h2
      · exact h3 y hy
theorem lmax_of {ns : List Int} {m : Int} (h1 : m ∈ ns) (h2 : ∀ y ∈ ns, y ≤ m) : lmax ns = some m := by
  cases ns with
  | nil => cases h1
  | cons n r =>
    have h := lmax_mem (ns := n :: r) (m := r.foldl max n) rfl
    have a := h2 _ h.1
    have b := h.2 _ h1
    exact congrArg some (Int.le_antisymm a b)
theorem lmin_of {ns : List Int} {m : Int} (h1 : m ∈ ns) (h2 : ∀ y ∈ ns, m ≤ y) : lmin ns = some m := by
  cases ns with
  | nil => cases h1
  | cons n r =>
    have h := lmin_mem (ns := n :: r) (m := r.foldl min n) rfl
    have a := h2 _ h.1
    have b := h.2 _ h1
    exact congrArg some (Int.le_antisymm b a)
def bMax : List PyData → Option PyData
  | [.int i, .int j] => some (.int (if j > i then j else i))
  | [.list ds] => (ints? ds).bind fun ns => (lmax ns).map .int
  | _ => none
def bMin : List PyData → Option PyData
  | [.int i, .int j] => some (.int (if j < i then j else i))
  | [.list ds] => (ints? ds).bind fun ns => (lmin ns).map .int
  | _ => none
def bList : List PyData → Option PyData
  | [.list ds] => some (.list ds)
  | [.tuple ds] => some (.list ds)
  | _ => none
def bTuple : List PyData → Option PyData
  | [.list ds] => some (.tuple ds)
  | [.tuple ds] => some (.tuple ds)
  | _ => none
section
variable {X : Cx}
theorem vd1 {K : PySem.W.Frag} {F : Hp} {vs : List V} {d : PyData} (h : VdAll K F vs [d]) : ∃ v, vs = [v] ∧ Vd K F v d := by
  cases h with
  | cons h1 h2 => cases h2; exact ⟨_, rfl, h1⟩
theorem vd2 {K : PySem.W.Frag} {F : Hp} {vs : List V} {d e : PyData} (h : VdAll K F vs [d, e]) : ∃ v u, vs = [v, u] ∧ Vd K F v d ∧ Vd K F u e := by
  cases h with
  | cons h1 h2 =>
    obtain ⟨u, rfl, h3⟩ := vd1 h2
    exact ⟨_, u, rfl, h1, h3⟩
theorem cb_len : CallR X (.builtin "len") (rCV X bLen) := by
  intro pins s σ H xs us Q I r h
  obtain ⟨F, ds, d, sf, hv, hg, hq⟩ := h
  unfold bLen at hg
  split at hg
  · cases hg
    obtain ⟨v, rfl, h1⟩ := vd1 hv
    cases h1 with
    | lst hs hz ha =>
      refine call_len_seq pins s σ H _ us Q I r ⟨_, _, rfl, .inl (sf.seq hs), ?_⟩
      rw [ha.length]; exact hq _ _ F (Ext.refl sf) (.int _)
  · cases hg
    obtain ⟨v, rfl, h1⟩ := vd1 hv
    cases h1 with
    | tup hs hz ha =>
      refine call_len_seq pins s σ H _ us Q I r ⟨_, _, rfl, .inr (same_sqT sf hs), ?_⟩
      rw [ha.length]; exact hq _ _ F (Ext.refl sf) (.int _)
  · obtain ⟨hp, rfl⟩ := some_of_if hg
    obtain ⟨v, rfl, h1⟩ := vd1 hv
    cases h1 with
    | str _ hx => exact call_len_str pins s σ H _ us Q I r ⟨_, rfl, hp, hq _ _ F (Ext.refl sf) (.int _)⟩
  · cases hg
theorem cb_int : CallR X (.type "int") (rCV X bInt) := by
  intro pins s σ H xs us Q I r h
  obtain ⟨F, ds, d, sf, hv, hg, hq⟩ := h
  unfold bInt at hg
  split at hg
  · cases hg
    obtain ⟨v, rfl, h1⟩ := vd1 hv
    cases h1
    exact call_int1 pins s σ H _ us Q I r (.inl ⟨_, rfl, hq _ _ F (Ext.refl sf) (.int _)⟩)
  · cases hg
    obtain ⟨v, rfl, h1⟩ := vd1 hv
    cases h1
    exact call_int1 pins s σ H _ us Q I r (.inr ⟨_, rfl, hq _ _ F (Ext.refl sf) (.int _)⟩)
  · cases hg
theorem cb_abs : CallR X (.builtin "abs") (rCV X bAbs) := by
  intro pins s σ H xs us Q I r h
  obtain ⟨F, ds, d, sf, hv, hg, hq⟩ := h
  unfold bAbs at hg
  split at hg
  · cases hg
    obtain ⟨v, rfl, h1⟩ := vd1 hv
    cases h1
    exact call_abs pins s σ H _ us Q I r ⟨_, rfl, hq _ _ F (Ext.refl sf) (.int _)⟩
  · cases hg
theorem cb_gcd : CallR X (.builtin "math.gcd") (rCV X bGcd) := by
  intro pins s σ H xs us Q I r h
  obtain ⟨F, ds, d, sf, hv, hg, hq⟩ := h
  unfold bGcd at hg
  split at hg
  · cases hg
    obtain ⟨v, u, rfl, h1, h2⟩ := vd2 hv
    cases h1
    cases h2
    exact cr_gcd pins s σ H _ us Q I r ⟨_, _, rfl, hq _ _ F (Ext.refl sf) (.int _)⟩
  · cases hg
theorem vints {F : Hp} {v : V} {ds : List PyData} {ns : List Int} (h : Vd X.K F v (.list ds)) (e : ints? ds = some ns) : ∃ a, v = .ref a ∧ SqL X.K F a (ns.map V.int) := by
  rw [ints?_eq e] at h
  cases h with
  | lst hs hz ha =>
    rw [ha.ints] at hs
    exact ⟨_, rfl, hs⟩
theorem vbools {F : Hp} {v : V} {ds : List PyData} {ns : List Bool} (h : Vd X.K F v (.list ds)) (e : bools? ds = some ns) : ∃ a, v = .ref a ∧ SqL X.K F a (ns.map V.bl) := by
  rw [bools?_eq e] at h
  cases h with
  | lst hs hz ha =>
    rw [ha.bools] at hs
    exact ⟨_, rfl, hs⟩
theorem cb_sum (hc : X.calm = true) : CallR X (.builtin "sum") (rCV X bSum) := by
  intro pins s σ H xs us Q I r h
  obtain ⟨F, ds, d, sf, hv, hg, hq⟩ := h
  unfold bSum at hg
  split at hg
  · rename_i es
    cases e : ints? es with
    | none => rw [e] at hg; cases hg
    | some ns =>
      rw [e] at hg
      cases hg
      obtain ⟨v, rfl, h1⟩ := vd1 hv
      obtain ⟨a, rfl, hs⟩ := vints h1 e
      exact cr_sum hc pins s σ H _ us Q I r ⟨a, ns, rfl, sf.seq hs, hq _ _ F (Ext.refl sf) (.int _)⟩
  · cases hg
theorem cb_any (hc : X.calm = true) : CallR X (.builtin "any") (rCV X bAny) := by
  intro pins s σ H xs us Q I r h
  obtain ⟨F, ds, d, sf, hv, hg, hq⟩ := h
  unfold bAny at hg
  split at hg
  · rename_i es
    cases e : bools? es with
    | none => rw [e] at hg; cases hg
    | some ns =>
      rw [e] at hg
      cases hg
      obtain ⟨v, rfl, h1⟩ := vd1 hv
      obtain ⟨a, rfl, hs⟩ := vbools h1 e
      exact cr_any hc pins s σ H _ us Q I r ⟨a, ns, rfl, sf.seq hs, hq _ _ F (Ext.refl sf) (.bl _)⟩
  · cases hg
theorem cb_all (hc : X.calm = true) : CallR X (.builtin "all") (rCV X bAll) := by
  intro pins s σ H xs us Q I r h
  obtain ⟨F, ds, d, sf, hv, hg, hq⟩ := h
  unfold bAll at hg
  split at hg
  · rename_i es
    cases e : bools? es with
    | none => rw [e] at hg; cases hg
    | some ns =>
      rw [e] at hg
      cases hg
      obtain ⟨v, rfl, h1⟩ := vd1 hv
      obtain ⟨a, rfl, hs⟩ := vbools h1 e
      exact cr_all hc pins s σ H _ us Q I r ⟨a, ns, rfl, sf.seq hs, hq _ _ F (Ext.refl sf) (.bl _)⟩
  · cases hg
theorem lmax_pos {ns : List Int} {m : Int} (h : lmax ns = some m) : 0 < ns.length := by
  cases ns with
  | nil => cases h
  | cons a r => simp
theorem lmin_pos {ns : List Int} {m : Int} (h : lmin ns = some m) : 0 < ns.length := by
  cases ns with
  | nil => cases h
  | cons a r => simp
theorem cb_max (hc : X.calm = true) : CallR X (.builtin "max") (rCV X bMax) := by
  intro pins s σ H xs us Q I r h
  obtain ⟨F, ds, d, sf, hv, hg, hq⟩ := h
  unfold bMax at hg
  split at hg
  · cases hg
    obtain ⟨v, u, rfl, h1, h2⟩ := vd2 hv
    cases h1
    cases h2
    exact call_max2 hc pins s σ H _ us Q I r ⟨_, _, rfl, hq _ _ F (Ext.refl sf) (.int _)⟩
  · rename_i es
    cases e : ints? es with
    | none => rw [e] at hg; cases hg
    | some ns =>
      rw [e] at hg
      cases e2 : lmax ns with
      | none => simp [e2] at hg
      | some m =>
        simp only [Option.bind_some, e2, Option.map_some, Option.some.injEq] at hg
        subst hg
        obtain ⟨v, rfl, h1⟩ := vd1 hv
        obtain ⟨a, rfl, hs⟩ := vints h1 e
        refine cr_max hc pins s σ H _ us Q I r ⟨a, ns, rfl, sf.seq hs, lmax_pos e2, fun k k1 k2 => ?_⟩
        have e3 := lmax_of k1 k2
        rw [e2] at e3
        cases e3
        exact hq _ _ F (Ext.refl sf) (.int _)
  · cases hg
theorem cb_min (hc : X.calm = true) : CallR X (.builtin "min") (rCV X bMin) := by
  intro pins s σ H xs us Q I r h
  obtain ⟨F, ds, d, sf, hv, hg, hq⟩ := h
  unfold bMin at hg
  split at hg
  · cases hg
    obtain ⟨v, u, rfl, h1, h2⟩ := vd2 hv
    cases h1
    cases h2
    exact call_min2 hc pins s σ H _ us Q I r ⟨_, _, rfl, hq _ _ F (Ext.refl sf) (.int _)⟩
  · rename_i es
    cases e : ints? es with
    | none => rw [e] at hg; cases hg
    | some ns =>
      rw [e] at hg
      cases e2 : lmin ns with
      | none => simp [e2] at hg
      | some m =>
        simp only [Option.bind_some, e2, Option.map_some, Option.some.injEq] at hg
        subst hg
        obtain ⟨v, rfl, h1⟩ := vd1 hv
        obtain ⟨a, rfl, hs⟩ := vints h1 e
        refine cr_min hc pins s σ H _ us Q I r ⟨a, ns, rfl, sf.seq hs, lmin_pos e2, fun k k1 k2 => ?_⟩
        have e3 := lmin_of k1 k2
        rw [e2] at e3
        cases e3
        exact hq _ _ F (Ext.refl sf) (.int _)
  · cases hg
theorem cb_list : CallR X (.type "list") (rCV X bList) := by
  intro pins s σ H xs us Q I r h
  obtain ⟨F, ds, d, sf, hv, hg, hq⟩ := h
  unfold bList at hg
  split at hg
  · cases hg
    obtain ⟨v, rfl, h1⟩ := vd1 hv
    cases h1 with
    | lst hs hz ha => exact call_list_of pins s σ H _ us Q I r ⟨_, _, rfl, .inl (sf.seq hs), new_lst sf hz ha hq⟩
  · cases hg
    obtain ⟨v, rfl, h1⟩ := vd1 hv
    cases h1 with
    | tup hs hz ha => exact call_list_of pins s σ H _ us Q I r ⟨_, _, rfl, .inr (same_sqT sf hs), new_lst sf hz ha hq⟩
  · cases hg
theorem cb_tuple : CallR X (.type "tuple") (rCV X bTuple) := by
  intro pins s σ H xs us Q I r h
  obtain ⟨F, ds, d, sf, hv, hg, hq⟩ := h
  unfold bTuple at hg
  split at hg
  · cases hg
    obtain ⟨v, rfl, h1⟩ := vd1 hv
    cases h1 with
    | lst hs hz ha => exact call_tuple_of pins s σ H _ us Q I r ⟨_, _, rfl, .inl ⟨sf.seq hs, new_tup sf hz ha hq⟩⟩
  · cases hg
    obtain ⟨v, rfl, h1⟩ := vd1 hv
    cases h1 with
    | tup hs hz ha => exact call_tuple_of pins s σ H _ us Q I r ⟨_, _, rfl, .inr ⟨same_sqT sf hs, hq _ _ F (Ext.refl sf) (.tup hs hz ha)⟩⟩
  · cases hg
end

/-! ### isinstance -/
inductive Ty where | int | bool | str | list | tuple | none
  deriving DecidableEq
def Ty.name : Ty → String
  | .int => "int" | .bool => "bool" | .str => "str" | .list => "list" | .tuple => "tuple" | .none => "NoneType"
def tyOf : PyData → Ty
  | .none => .none | .bool _ => .bool | .int _ => .int | .str _ => .str | .list _ => .list | .tuple _ => .tuple | .dict _ => .none
def Ty.sub : Ty → Ty → Bool
  | .int, .int => true | .bool, .int => true | .bool, .bool => true | .str, .str => true | .list, .list => true | .tuple, .tuple => true | .none, .none => true
  | _, _ => false
def isTy (T : Ty) (d : PyData) : Bool := (tyOf d).sub T
theorem kitTy {K : PySem.W.Frag} (a b : Ty) (hb : b ≠ .none) : PySem.W.kitOne K (.type a.name) (.type b.name) = some (a.sub b) := by
  apply kit_ty
  cases a <;> cases b <;> first | exact absurd rfl hb | decide +kernel
section
variable {X : Cx} {P : Pm} {pos p p2 : Pos} {e : Expr} {f : Evn → RE PyData} {x : Str}
theorem vd_ty {F H : Hp} {v : V} {d : PyData} (sf : Same F H) (h : Vd X.K F v d) : TyX X.K H v (.type (tyOf d).name) := by
  cases h with
  | non => exact .base .non
  | bl b => exact .base (.bl b)
  | int i => exact .base (.int i)
  | str x hx => exact .base (.str x)
  | lst hs hz ha =>
    rcases sf.seq hs with (h | ⟨o, h⟩) | ⟨o, its, n, hk, hc, _⟩
    · exact .base (.lst h)
    · exact .base (.frz h)
    · exact .kList hk hc
  | tup hs hz ha =>
    rcases same_sqT sf hs with (h | ⟨o, h⟩) | ⟨o, its, n, hk, hc, _⟩
    · exact .base (.tup h)
    · exact .fTuple h
    · exact .kTuple hk hc
/-- a built-in class as a value -/
theorem pe_cls {T : Ty} (hg : Gl X x) (hm : X.mg x = none) (hv : bootBuiltins x = some (.type T.name)) (hn : x ≠ "__name__" := by decide) (hdb : (x == ("__debug__" : Str)) = false := by decide) : PE X (.Name x p) (tC (.ty T.name)) := pe_bltn hg hm hv rfl hn hdb
def mIs (T : Ty) (f : Evn → RE PyData) (ρ : Evn) : RE PyData := (f ρ).bind fun d => .ok (.bool (isTy T d))
theorem ve_isi {T : Ty} (hT : T ≠ .none) (he : VE X P e f) (hg : Gl X "isinstance") (hm : X.mg "isinstance" = none) (hg2 : Gl X x) (hm2 : X.mg x = none) (hv : bootBuiltins x = some (.type T.name)) (hn : x ≠ "__name__" := by decide) (hdb : (x == ("__debug__" : Str)) = false := by decide)
    (h1 : starEach [e, .Name x p2] X.env = (false, eval e X.env) :: starEach [.Name x p2] X.env := by rfl) (h2 : starEach [.Name x p2] X.env = (false, eval (.Name x p2) X.env) :: starEach [] X.env := by rfl) (hpl : (backTo pos (starEach [.Name x p2] X.env)).any (·.1) = false := by rfl) :
    VE X P (.Call (.Name "isinstance" p) [e, .Name x p2] [] pos) (mIs T f) :=
  PE_mono (pe_callB call_isi hg hm (by decide +kernel) (pa_cons he (pa_cons (pe_cls hg2 hm2 hv hn hdb) pa_nil h2) h1) (he := h1) (hpl := hpl)) fun σ H Q h => by
    obtain ⟨ρ, F, hR, h⟩ := h
    refine Out.first hR h fun d v F1 H1 e1 hv R1 h1 => ?_
    exact ⟨v, _, _, _, _, rfl, .ty _, vd_ty R1.fh hv, kitTy _ _ hT, h1 _ H1 F1 (Ext.refl R1.fh) (.bl _)⟩
/-- isinstance(e, (T, U)) -/
def mIs2 (T U : Ty) (f : Evn → RE PyData) (ρ : Evn) : RE PyData := (f ρ).bind fun d => .ok (.bool (isTy T d || isTy U d))
theorem ve_isi2 {T U : Ty} {y : Str} {p3 p4 : Pos} {k : Nat} (hT : T ≠ .none) (hU : U ≠ .none) (he : VE X P e f) (hg : Gl X "isinstance") (hm : X.mg "isinstance" = none) (hg2 : Gl X x) (hm2 : X.mg x = none) (hv : bootBuiltins x = some (.type T.name))
    (hg3 : Gl X y) (hm3 : X.mg y = none) (hv3 : bootBuiltins y = some (.type U.name)) (hn : x ≠ "__name__" := by decide) (hdb : (x == ("__debug__" : Str)) = false := by decide) (hn3 : y ≠ "__name__" := by decide) (hdb3 : (y == ("__debug__" : Str)) = false := by decide)
    (h1 : starEach [e, .Tuple [.Name x p2, .Name y p3] k p4] X.env = (false, eval e X.env) :: starEach [.Tuple [.Name x p2, .Name y p3] k p4] X.env := by rfl) (h2 : starEach [.Tuple [.Name x p2, .Name y p3] k p4] X.env = (false, eval (.Tuple [.Name x p2, .Name y p3] k p4) X.env) :: starEach [] X.env := by rfl)
    (hpl : (backTo pos (starEach [.Tuple [.Name x p2, .Name y p3] k p4] X.env)).any (·.1) = false := by rfl)
    (h3 : starEach [.Name x p2, .Name y p3] X.env = (false, eval (.Name x p2) X.env) :: starEach [.Name y p3] X.env := by rfl) (h4 : starEach [.Name y p3] X.env = (false, eval (.Name y p3) X.env) :: starEach [] X.env := by rfl) :
    VE X P (.Call (.Name "isinstance" p) [e, .Tuple [.Name x p2, .Name y p3] k p4] [] pos) (mIs2 T U f) :=
  PE_mono (pe_callB call_isiT hg hm (by decide +kernel) (pa_cons he (pa_cons (pe_tup (pa_cons (pe_cls hg2 hm2 hv hn hdb) (pa_cons (pe_cls hg3 hm3 hv3 hn3 hdb3) pa_nil h4) h3)) pa_nil h2) h1) (he := h1) (hpl := hpl)) fun σ H Q h => by
    obtain ⟨ρ, F, hR, h⟩ := h
    refine Out.first hR h fun d v F1 H1 e1 hv R1 h1 => ?_
    refine ⟨by show 2 ≤ sizeLine; decide, fun tp hp => ?_⟩
    refine ⟨v, tp, _, _, _, _, rfl, upd_same, .cons (.ty _) (.cons (.ty _) .nil), vd_ty (R1.fh.trans (same_upd hp)) hv, kitAny_cons (r := isTy T d || isTy U d) (kitTy _ _ hT) (fun hb => kitAny_cons (kitTy _ _ hU) (fun hb2 => ?_) (fun hb2 => ?_)) (fun hb => ?_), ?_⟩
    · have a1 : isTy T d = false := hb
      have a2 : isTy U d = false := hb2
      rw [a1, a2]; exact kitAny_nil
    · have a2 : isTy U d = true := hb2
      rw [a2, Bool.or_true]
    · have a1 : isTy T d = true := hb
      rw [a1, Bool.true_or]
    · exact h1 _ _ F1 (Ext.beside R1.fh hp) (.bl _)
end
end PV
end
section
set_option Elab.async false
set_option linter.all false
set_option maxRecDepth 100000
set_option maxHeartbeats 4000000
namespace PV
open PySem PySem.Spec PyProof.Rows L2

/-! ### defs -/
/-- a def's promise by its meaning: what stood is as it was, the answer is the datum -/
def SpV (K : PySem.W.Frag) (mg : Str → Option Value) (n : Nat) (sem : List PyData → RE PyData) : Sp := fun vs H Q E => ∃ F ds, Same F H ∧ VdAll K F vs ds ∧ ds.length = n ∧
  (sem ds).post (fun d => ∀ v H' F', Ext F H F' H' → Vd K F' v d → Q v H') (fun c _ => ∀ C H' F', mg c = some (.ref C) → Ext F H F' H' → E (.ref C) none H')
structure FnV (P : Program) (w : World) (K : PySem.W.Frag) (mg : Str → Option Value) (base : Heap) (k : Nat) (f : Addr) (fd : FuncData) (ps : List Str) (sem : List PyData → RE PyData) : Prop where
  ok : FnOk P w K mg base (L2.CX P w) k f fd ps (SpV K mg ps.length sem)
  ar : ∀ ds, ds.length ≠ ps.length → sem ds = .bad
theorem FnV.mono {P : Program} {w : World} {K : PySem.W.Frag} {mg : Str → Option Value} {base : Heap} {j k : Nat} {f : Addr} {fd : FuncData} {ps : List Str} {sem : List PyData → RE PyData} (h : FnV P w K mg base j f fd ps sem) (hk : j ≤ k) :
    FnV P w K mg base k f fd ps sem := ⟨h.ok.mono hk, h.ar⟩
/-- nothing is claimed -/
theorem FnV.bad {P : Program} {w : World} {K : PySem.W.Frag} {mg : Str → Option Value} {base : Heap} {k : Nat} {f : Addr} {fd : FuncData} {ps : List Str} : FnV P w K mg base k f fd ps (fun _ => .bad) :=
  ⟨⟨fun vs H Q E ⟨F, ds, _, _, _, h⟩ => h.elim, fun _ _ _ _ _ _ _ _ _ _ _ _ _ ⟨F, ds, _, _, _, h⟩ => h.elim⟩, fun _ _ => rfl⟩
section
variable {X : Cx} {P : Pm} {pos p : Pos} {e : Expr} {es : List Expr} {fa : Evn → RE (List PyData)} {sem : List PyData → RE PyData} {x : Str} {k : Nat} {f : Addr} {fd : FuncData} {ps : List Str}
theorem spV_of {σ : Sg} {H F : Hp} {Q : VK} {vs : List V} {ds : List PyData} (ar : ∀ ds, ds.length ≠ ps.length → sem ds = .bad) (sf : Same F H) (hv : VdAll X.K F vs ds) (h : Out X P σ Q F H (sem ds)) : SpV X.K X.mg ps.length sem vs H Q (WE P.W σ) := by
  refine ⟨F, ds, sf, hv, ?_, R.post_mono h (fun d q => q) (fun c _ q => q)⟩
  by_cases hl : ds.length = ps.length
  · exact hl
  · rw [ar ds hl] at h; exact h.elim
theorem ve_call (F : FnV X.prog X.w X.K X.mg X.base k f fd ps sem) (hr : Room k X.A) (hg : Gl X x) (hm : X.mg x = some (.ref f)) (hk : PySem.W.keepIn X.K (.ref f) = true) (hb : Binds X.K fd ps []) (tk : Takes X P.W)
    (ha : VA X P (e :: es) fa) (hdb : (x == ("__debug__" : Str)) = false := by decide) (he : starEach (e :: es) X.env = (false, eval e X.env) :: starEach es X.env := by rfl) (hpl : (backTo pos (starEach es X.env)).any (·.1) = false := by rfl) :
    VE X P (.Call (.Name x p) (e :: es) [] pos) (mSeq sem fa) := PE_mono (pe_callS F.ok hr hg hm hk hb (fun σ => passAt tk σ) ha hdb he hpl) fun σ H Q h => by
  obtain ⟨ρ, F0, hR, h⟩ := h
  exact OutA.firstV hR h fun ds vs F1 H1 e1 hv R1 h1 => spV_of F.ar R1.fh hv h1
/-- f() -/
theorem ve_call0 (F : FnV X.prog X.w X.K X.mg X.base k f fd ps sem) (hr : Room k X.A) (hg : Gl X x) (hm : X.mg x = some (.ref f)) (hk : PySem.W.keepIn X.K (.ref f) = true) (hb : Binds X.K fd ps []) (tk : Takes X P.W)
    (hdb : (x == ("__debug__" : Str)) = false := by decide) :
    VE X P (.Call (.Name x p) [] [] pos) (fun _ => sem []) := by
  have hc : PE X (.Call (.Name x p) [] [] pos) (fun σ H Q => SpV X.K X.mg ps.length sem [] H Q (WE P.W σ)) := by
    refine ⟨fun pins s σ H Q I h => ?_⟩
    refine wpAny_Call_Name_kw (ld_glob I hg hm ?_ hdb)
    exact PySem.W.callWith_K0 I.kIn hk (run_fnS (us := []) (E := WE P.W) F.ok hr hb (passAt tk σ) I .nil h)
  exact PE_mono hc fun σ H Q h => by
    obtain ⟨ρ, F0, hR, h⟩ := h
    exact spV_of F.ar hR.fh .nil h
end

/-! ### statements -/
inductive Fl where
  | nx | bk | ct
  | rt (d : PyData)
abbrev RS := R Evn (Fl × Evn)
def OutS (X : Cx) (P : Pm) (D : Ends) (F : Hp) (r : RS) : Prop :=
  r.post (fun p => match p.1 with
    | .nx => ∀ σ' H' F', Same F F' → Rep X.K P p.2 F' σ' H' → D.nx σ' H'
    | .bk => ∀ σ' H' F', Same F F' → Rep X.K P p.2 F' σ' H' → D.bk σ' H'
    | .ct => ∀ σ' H' F', Same F F' → Rep X.K P p.2 F' σ' H' → D.ct σ' H'
    | .rt d => ∀ v σ' H' F', Same F F' → Rep X.K P p.2 F' σ' H' → Vd X.K F' v d → D.rt v H')
  (fun c ρ' => ∀ C σ' H' F', X.mg c = some (.ref C) → Same F F' → Rep X.K P ρ' F' σ' H' → P.W (.ref C) none σ' H')
theorem OutS.step {X : Cx} {P : Pm} {D : Ends} {F F1 : Hp} {r : RS} (h : OutS X P D F r) (e : Same F F1) : OutS X P D F1 r :=
  R.post_mono h (fun p q => by
    obtain ⟨fl, ρ⟩ := p
    cases fl with
    | nx => exact fun σ' H' F' s r => q σ' H' F' (e.trans s) r
    | bk => exact fun σ' H' F' s r => q σ' H' F' (e.trans s) r
    | ct => exact fun σ' H' F' s r => q σ' H' F' (e.trans s) r
    | rt d => exact fun v σ' H' F' s r => q v σ' H' F' (e.trans s) r) (fun c ρ' q C σ' H' F' hm s r => q C σ' H' F' hm (e.trans s) r)
def tS (X : Cx) (P : Pm) (f : Evn → RS) : TS := fun D σ H => ∃ ρ F, Rep X.K P ρ F σ H ∧ OutS X P D F (f ρ)
def VS (X : Cx) (P : Pm) (st : Stmt) (f : Evn → RS) : Prop := PS X st (tS X P f)
def VSs (X : Cx) (P : Pm) (sts : List Stmt) (f : Evn → RS) : Prop := PSs X sts (tS X P f)
theorem PS_mono {X : Cx} {st : Stmt} {t t' : TS} (h : PS X st t) (m : ∀ D σ H, t' D σ H → t D σ H) : PS X st t' := ⟨fun pins s σ H D I q => h.run pins s σ H D I (m D σ H q)⟩
theorem PSs_mono {X : Cx} {st : List Stmt} {t t' : TS} (h : PSs X st t) (m : ∀ D σ H, t' D σ H → t D σ H) : PSs X st t' := ⟨fun pins s σ H D I q => h.run pins s σ H D I (m D σ H q)⟩
/-- an expression's result in a statement -/
def R.at {α : Type} (x : RE α) (ρ : Evn) : R Evn α := match x with
  | .ok a => .ok a
  | .exc c _ => .exc c ρ
  | .bad => .bad
def sNx (ρ : Evn) : RS := .ok (.nx, ρ)
def sThen (f g : Evn → RS) (ρ : Evn) : RS := (f ρ).bind fun p => match p.1 with
  | .nx => g p.2
  | _ => .ok p
def sDrop (f : Evn → RE PyData) (ρ : Evn) : RS := ((f ρ).at ρ).bind fun _ => .ok (.nx, ρ)
def sRet (f : Evn → RE PyData) (ρ : Evn) : RS := ((f ρ).at ρ).bind fun d => .ok (.rt d, ρ)
def sSet (i : Nat) (f : Evn → RE PyData) (ρ : Evn) : RS := ((f ρ).at ρ).bind fun d => .ok (.nx, ρ.set i (some (.val d)))
def sIf (c : Evn → RE Bool) (f g : Evn → RS) (ρ : Evn) : RS := ((c ρ).at ρ).bind fun b => if b then f ρ else g ρ
section
variable {X : Cx} {P : Pm} {pos : Pos} {st : Stmt} {sts : List Stmt} {e : Expr} {f g : Evn → RS} {fe : Evn → RE PyData} {fc : Evn → RE Bool} {D : Ends} {ρ : Evn} {F H : Hp} {σ : Sg}
/-- an expression in a statement is read -/
theorem OutS.first {k : PyData → RS} {Q' : VK} (hR : Rep X.K P ρ F σ H) (h : OutS X P D F (((fe ρ).at ρ).bind k)) (hq : ∀ d v F1 H1, Ext F H F1 H1 → Vd X.K F1 v d → Rep X.K P ρ F1 σ H1 → OutS X P D F1 (k d) → Q' v H1) : tV X P fe σ H Q' := by
  refine ⟨ρ, F, hR, ?_⟩
  cases q : fe ρ with
  | ok d => rw [q] at h; exact fun v H' F' ex hv => hq d v F' H' ex hv (hR.step ex) (OutS.step h ex.ff)
  | exc c u => rw [q] at h; exact fun C H' F' hm ex => h C σ H' F' hm ex.ff (hR.step ex)
  | bad => rw [q] at h; exact h.elim
theorem OutS.firstB {k : Bool → RS} {Q' : Bool → Hp → Prop} (hR : Rep X.K P ρ F σ H) (h : OutS X P D F (((fc ρ).at ρ).bind k)) (hq : ∀ d F1 H1, Ext F H F1 H1 → Rep X.K P ρ F1 σ H1 → OutS X P D F1 (k d) → Q' d H1) : tTV X P fc σ H Q' := by
  refine ⟨ρ, F, hR, ?_⟩
  cases q : fc ρ with
  | ok d => rw [q] at h; exact fun H' F' ex => hq d F' H' ex (hR.step ex) (OutS.step h ex.ff)
  | exc c u => rw [q] at h; exact fun C H' F' hm ex => h C σ H' F' hm ex.ff (hR.step ex)
  | bad => rw [q] at h; exact h.elim
theorem vs_nil : VSs X P [] sNx := PSs_mono pss_nil fun D σ H h => by
  obtain ⟨ρ, F, hR, h⟩ := h
  exact h σ H F (Same.refl _) hR
theorem tS_then {D : Ends} {σ : Sg} {H : Hp} (h : tS X P (sThen f g) D σ H) : tSeq (tS X P f) (tS X P g) D σ H := by
  obtain ⟨ρ, F, hR, h⟩ := h
  refine ⟨ρ, F, hR, ?_⟩
  unfold sThen at h
  cases q : f ρ with
  | ok p =>
    rw [q] at h
    obtain ⟨fl, ρ'⟩ := p
    cases fl with
    | nx => exact fun σ' H' F' s hR' => ⟨ρ', F', hR', OutS.step h s⟩
    | bk => exact h
    | ct => exact h
    | rt d => exact h
  | exc c u => rw [q] at h; exact h
  | bad => rw [q] at h; exact h.elim
theorem vs_cons (h1 : VS X P st f) (h2 : VSs X P sts g) : VSs X P (st :: sts) (sThen f g) := PSs_mono (pss_cons h1 h2) fun D σ H h => tS_then h
theorem vs_one (h1 : VS X P st f) : VSs X P [st] f := pss_one h1
theorem vs_pass : VS X P (.Pass pos) sNx := PS_mono ps_pass fun D σ H h => by
  obtain ⟨ρ, F, hR, h⟩ := h
  exact h σ H F (Same.refl _) hR
theorem vs_break : VS X P (.Break pos) (fun ρ => .ok (.bk, ρ)) := PS_mono ps_break fun D σ H h => by
  obtain ⟨ρ, F, hR, h⟩ := h
  exact h σ H F (Same.refl _) hR
theorem vs_continue : VS X P (.Continue pos) (fun ρ => .ok (.ct, ρ)) := PS_mono ps_continue fun D σ H h => by
  obtain ⟨ρ, F, hR, h⟩ := h
  exact h σ H F (Same.refl _) hR
theorem vs_expr (he : VE X P e fe) (hs : swapsWith e none pos.line X.env = pure false := by rfl) : VS X P (.Expr e pos) (sDrop fe) := PS_mono (ps_expr he hs) fun D σ H h => by
  obtain ⟨ρ, F, hR, h⟩ := h
  exact OutS.first hR h fun d v F1 H1 e1 hv R1 h1 => h1 σ H1 F1 (Same.refl _) R1
theorem vs_ret (he : VE X P e fe) : VS X P (.Return (some e) pos) (sRet fe) := PS_mono (ps_ret he) fun D σ H h => by
  obtain ⟨ρ, F, hR, h⟩ := h
  exact OutS.first hR h fun d v F1 H1 e1 hv R1 h1 => h1 v σ H1 F1 (Same.refl _) R1 hv
theorem vs_retN : VS X P (.Return none pos) (fun ρ => .ok (.rt .none, ρ)) := PS_mono ps_retN fun D σ H h => by
  obtain ⟨ρ, F, hR, h⟩ := h
  exact h _ σ H F (Same.refl _) hR .non
theorem vs_if {c : Expr} {a b : List Stmt} (hc : VT X P c fc) (ha : VSs X P a f) (hb : VSs X P b g) : VS X P (.If c a b pos) (sIf fc f g) := PS_mono (ps_if hc ha hb) fun D σ H h => by
  obtain ⟨ρ, F, hR, h⟩ := h
  refine OutS.firstB hR h fun d F1 H1 e1 R1 h1 => ?_
  cases d with
  | true => rw [if_pos rfl]; exact ⟨ρ, F1, R1, by simpa using h1⟩
  | false => rw [if_neg (by decide)]; exact ⟨ρ, F1, R1, by simpa using h1⟩
theorem vs_set (i : Nat) {x : Str} {pos' : Pos} (hN : X.N.Nodup) (he : VE X P e fe) (hi : X.N[i]? = some x := by rfl) (hx : Loc X.env.scope x := by first | exact Or.inl rfl | exact Or.inr rfl) (hs : swapsWith e (some (.Name x pos')) pos.line X.env = pure false := by rfl)
    (hf : X.fn x = true ∨ X.env.scope.names.lookup x = some .local := by first | exact .inl rfl | exact .inr rfl) : VS X P (.Assign [.Name x pos'] e pos) (sSet i fe) := PS_mono (ps_set hN hi hx he hs hf) fun D σ H h => by
  obtain ⟨ρ, F, hR, h⟩ := h
  exact OutS.first hR h fun d v F1 H1 e1 hv R1 h1 => h1 _ H1 F1 (Same.refl _) (R1.setVal hv)
/-- a name's own list becomes still ahead of a statement -/
theorem vs_freeze (i : Nat) (h : VS X P st f) : VS X P st (fun ρ => f (freeze i ρ)) := PS_mono h fun D σ H h => by
  obtain ⟨ρ, F, hR, h⟩ := h
  obtain ⟨F', s1, R1⟩ := hR.freeze (i := i)
  exact ⟨_, F', R1, OutS.step h s1⟩
/-- an expression whose answer bears no object may read a name's own list -/
def scal : PyData → Bool
  | .none => true | .bool _ => true | .int _ => true | .str _ => true
  | _ => false
def mBor (i : Nat) (f : Evn → RE PyData) (ρ : Evn) : RE PyData := (f (freeze i ρ)).bind fun d => if scal d then .ok d else .bad
theorem Rep.bor {F1 H' F' : Hp} (r : Rep X.K P ρ F σ H) (s : Same F F1) (e : Ext F1 H F' H') : Ext F H F H' := ⟨e.hh, Same.refl _, r.fh.trans e.hh, fun _ _ q => .inl q⟩
theorem ve_bor (i : Nat) (h : VE X P e fe) : VE X P e (mBor i fe) := PE_mono h fun σ H Q h => by
  obtain ⟨ρ, F, hR, h⟩ := h
  obtain ⟨F1, s1, R1⟩ := hR.freeze (i := i)
  refine ⟨_, F1, R1, ?_⟩
  unfold mBor at h
  cases q : fe (freeze i ρ) with
  | ok d =>
    rw [q] at h
    intro v H' F' ex hv
    have h' : Out X P σ Q F H (if scal d = true then .ok d else .bad) := h
    by_cases hs : scal d = true
    · rw [if_pos hs] at h'
      refine h' v H' F (hR.bor s1 ex) ?_
      cases hv with
      | non => exact .non
      | bl b => exact .bl b
      | int i => exact .int i
      | str x hx => exact .str x hx
      | lst _ _ _ => cases hs
      | tup _ _ _ => cases hs
    · rw [if_neg hs] at h'; exact h'.elim
  | exc c u =>
    rw [q] at h
    exact fun C H' F' hm ex => h C H' F hm (hR.bor s1 ex)
  | bad => rw [q] at h; exact h.elim
def mBorB (i : Nat) (f : Evn → RE Bool) (ρ : Evn) : RE Bool := f (freeze i ρ)
theorem vt_bor (i : Nat) (h : VT X P e fc) : VT X P e (mBorB i fc) := PT_mono h fun σ H Q h => by
  obtain ⟨ρ, F, hR, h⟩ := h
  obtain ⟨F1, s1, R1⟩ := hR.freeze (i := i)
  refine ⟨_, F1, R1, ?_⟩
  exact R.post_mono h (fun b q H' F' ex => q H' F (hR.bor s1 ex)) (fun c _ q C H' F' hm ex => q C H' F hm (hR.bor s1 ex))
end

/-! ### a body -/
def startE (N : Nat) (ds : List PyData) : Evn := ds.map (fun d => some (.val d)) ++ List.replicate (N - ds.length) none
def bodyOut (r : RS) : RE PyData := match r with
  | .ok (.rt d, _) => .ok d
  | .ok (.nx, _) => .ok .none
  | .ok _ => .bad
  | .exc c _ => .exc c ()
  | .bad => .bad
/-- what a def's body means: n parameters, N names -/
def fnM (n N : Nat) (body : Evn → RS) (ds : List PyData) : RE PyData := if ds.length = n then bodyOut (body (startE N ds)) else .bad
theorem fnM_ar {n N : Nat} {body : Evn → RS} {ds : List PyData} (h : ds.length ≠ n) : fnM n N body ds = .bad := if_neg h
theorem startE_get {N : Nat} {ds : List PyData} {i : Nat} {c : Cel} (h : (startE N ds)[i]? = some (some c)) : ∃ d, c = .val d ∧ ds[i]? = some d := by
  unfold startE at h
  by_cases hi : i < (ds.map fun d => (some (Cel.val d) : Option Cel)).length
  · rw [List.getElem?_append_left hi, List.getElem?_map] at h
    cases q : ds[i]? with
    | none => rw [q] at h; cases h
    | some d => rw [q] at h; cases h; exact ⟨d, rfl, rfl⟩
  · rw [List.getElem?_append_right (by omega)] at h
    have := List.mem_of_getElem? h
    rw [List.mem_replicate] at this
    cases this.2
theorem rep_start {K : PySem.W.Frag} {N : List Str} {vs : List V} {ds : List PyData} {F H : Hp} {W : WX} (sf : Same F H) (hv : VdAll K F vs ds) : Rep K ⟨H, F, W, none⟩ (startE N.length ds) F (L2.start N vs) H := by
  have hl := hv.length
  refine ⟨?_, ⟨Same.refl _, Same.refl _, sf, fun _ _ e => .inl e⟩, fun i c h => ?_, fun i j a es es' _ h1 => ?_⟩
  · unfold startE L2.start
    simp only [List.length_append, List.length_map, List.length_replicate]
    omega
  · obtain ⟨d, rfl, hd⟩ := startE_get h
    obtain ⟨v, h1, h2⟩ := hv.get hd
    refine ⟨v, ?_, h2⟩
    unfold L2.start
    have hi : i < vs.length := (List.getElem?_eq_some_iff.mp h1).1
    rw [List.getElem?_append_left (by rw [List.length_map]; exact hi), List.getElem?_map, h1]
    rfl
  · obtain ⟨d, e, _⟩ := startE_get h1
    cases e
/-- a def's wish -/
abbrev wE (E : XK) : WX := fun cls d _ H => E cls d H
section
variable {P : Program} {w : World} {K : PySem.W.Frag} {mg : Str → Option Value} {base : Heap}
/-- THE RULE for a def: its body's meaning -/
theorem FnV.of {x qual : Str} {st : Stmt} {f : Addr} {fd : FuncData} {N ps : List Str} {k : Nat} {body : Evn → RS} (F : Fun K x qual st f fd) (S : FnScope N ps (defScope st))
    (hbody : ∀ (cdv : Value) (A : Around) (outer : List Env) (s : Shared) (H : Hp) (E : XK) (F0 : Hp), Room k (A.deeper (envOfC qual (defScope st) s.heap.objs.size f cdv)) →
      VSs (cxOf (L2.CX P w) P w K mg base N qual (defScope st) f cdv A outer s H E) ⟨H, F0, wE E, none⟩ (defBody st) body) :
    FnV P w K mg base (k + 1) f fd ps (fnM ps.length N.length body) := by
  refine ⟨F.okX S (fun vs H Q E h => ?_) (fun cdv A outer s H vs Q E hr h => ?_), fun ds h => fnM_ar h⟩
  · obtain ⟨F0, ds, _, hv, hl, _⟩ := h
    rw [hv.length, hl]
  · obtain ⟨F0, ds, sf, hv, hl, hp⟩ := h
    refine ⟨_, hbody cdv A outer s H E F0 hr, startE N.length ds, F0, rep_start sf hv, ?_⟩
    unfold fnM at hp
    rw [if_pos hl] at hp
    unfold OutS
    cases q : body (startE N.length ds) with
    | ok p =>
      rw [q] at hp
      obtain ⟨fl, ρ'⟩ := p
      cases fl with
      | nx => exact fun σ' H' F' _ r => hp _ _ F' r.ext .non
      | bk => exact hp.elim
      | ct => exact hp.elim
      | rt d => exact fun v σ' H' F' _ r hv' => hp v H' F' r.ext hv'
    | exc c ρ' =>
      rw [q] at hp
      exact fun C σ' H' F' hm _ r => hp C H' F' hm r.ext
    | bad => rw [q] at hp; exact hp.elim
theorem takesD {N : List Str} {qual : Str} {scope : Scope} {f : Addr} {cdv : Value} {A : Around} {outer : List Env} {s : Shared} {H : Hp} {E : XK} : Takes (cxOf (L2.CX P w) P w K mg base N qual scope f cdv A outer s H E) (wE E) := takes_of rfl rfl rfl rfl
end
end PV
end
section
set_option Elab.async false
set_option linter.all false
set_option maxRecDepth 100000
set_option maxHeartbeats 4000000
namespace PV
open PySem PySem.Spec PyProof.Rows L2 RT

/-! ### targets -/
/-- σ' is σ but for the slots is -/
def But (js : List Nat) (σ σ' : Sg) : Prop := ∀ vs : List Nat, (∀ i ∈ js, i ∈ vs) → L2.wipe σ' vs = L2.wipe σ vs
theorem wipe_set {σ : Sg} {i : Nat} {x : Option V} : ∀ {vs : List Nat}, i ∈ vs → L2.wipe (σ.set i x) vs = L2.wipe σ vs
  | v :: vs, h => by
    unfold L2.wipe
    by_cases hv : i ∈ vs
    · rw [wipe_set hv]
    · have e : i = v := by rcases List.mem_cons.mp h with e | e; exact e; exact absurd e hv
      subst e
      have q : ∀ ws : List Nat, (L2.wipe (σ.set i x) ws).set i none = (L2.wipe σ ws).set i none := fun ws => by
        induction ws with
        | nil => show (σ.set i x).set i none = σ.set i none; rw [List.set_set]
        | cons w ws ih =>
          show ((L2.wipe (σ.set i x) ws).set w none).set i none = ((L2.wipe σ ws).set w none).set i none
          by_cases hw : w = i
          · subst hw; rw [List.set_set, List.set_set]; exact ih
          · rw [List.set_comm _ _ hw, List.set_comm _ _ hw, ih]
      exact q vs
theorem But.refl (js : List Nat) (σ : Sg) : But js σ σ := fun _ _ => rfl
theorem But.set {i : Nat} {σ : Sg} {x : Option V} : But [i] σ (σ.set i x) := fun vs h => wipe_set (h i List.mem_cons_self)
theorem But.trans {a b : List Nat} {σ σ1 σ2 : Sg} (h : But a σ σ1) (k : But b σ1 σ2) : But (a ++ b) σ σ2 := fun vs m => (k vs fun i hi => m i (List.mem_append_right _ hi)).trans (h vs fun i hi => m i (List.mem_append_left _ hi))
def tG (X : Cx) (P : Pm) (m : PyData → Evn → Option Evn) (js : List Nat) : TG := fun v σ H Q => ∃ ρ F d ρ', Rep X.K P ρ F σ H ∧ Vd X.K F v d ∧ m d ρ = some ρ' ∧ ∀ σ', Rep X.K P ρ' F σ' H → But js σ σ' → Q σ' H
def tGs (X : Cx) (P : Pm) (m : List PyData → Evn → Option Evn) (js : List Nat) : TGs := fun vs σ H Q => ∃ ρ F ds ρ', Rep X.K P ρ F σ H ∧ VdAll X.K F vs ds ∧ m ds ρ = some ρ' ∧ ∀ σ', Rep X.K P ρ' F σ' H → But js σ σ' → Q σ' H
def VG (X : Cx) (P : Pm) (tg : Expr) (m : PyData → Evn → Option Evn) (js : List Nat) : Prop := PG X tg (tG X P m js)
def VGs (X : Cx) (P : Pm) (tgs : List Expr) (m : List PyData → Evn → Option Evn) (js : List Nat) : Prop := PGs X tgs (tGs X P m js)
theorem PG_mono {X : Cx} {e : Expr} {t t' : TG} (h : PG X e t) (m : ∀ v σ H Q, t' v σ H Q → t v σ H Q) : PG X e t' := ⟨fun pins s σ H v u Q I r q => h.run pins s σ H v u Q I r (m v σ H Q q)⟩
theorem PGs_mono {X : Cx} {e : List Expr} {t t' : TGs} (h : PGs X e t) (m : ∀ v σ H Q, t' v σ H Q → t v σ H Q) : PGs X e t' := ⟨fun pins s σ H v u Q I r q => h.run pins s σ H v u Q I r (m v σ H Q q)⟩
def gN (i : Nat) (d : PyData) (ρ : Evn) : Option Evn := some (ρ.set i (some (.val d)))
def gE (ds : List PyData) (ρ : Evn) : Option Evn := match ds with
  | [] => some ρ
  | _ => none
def gC (m : PyData → Evn → Option Evn) (ms : List PyData → Evn → Option Evn) (ds : List PyData) (ρ : Evn) : Option Evn := match ds with
  | d :: r => (m d ρ).bind (ms r)
  | _ => none
def gT (n : Nat) (ms : List PyData → Evn → Option Evn) (d : PyData) (ρ : Evn) : Option Evn := match d with
  | .tuple ds => if ds.length = n then ms ds ρ else none
  | .list ds => if ds.length = n then ms ds ρ else none
  | _ => none
def oS {α : Type} : Option α → R Evn α
  | some a => .ok a
  | none => .bad
section
variable {X : Cx} {P : Pm} {pos : Pos} {e : Expr} {es : List Expr} {m : PyData → Evn → Option Evn} {ms : List PyData → Evn → Option Evn} {fe : Evn → RE PyData}
theorem vg_name (i : Nat) {x : Str} (hN : X.N.Nodup) (hi : X.N[i]? = some x := by rfl) (hx : Loc X.env.scope x := by first | exact Or.inl rfl | exact Or.inr rfl) (hf : X.fn x = true ∨ X.env.scope.names.lookup x = some .local := by first | exact .inl rfl | exact .inr rfl) : VG X P (.Name x pos) (gN i) [i] :=
  PG_mono (pg_name hN hi hx hf) fun v σ H Q h => by
    obtain ⟨ρ, F, d, ρ', hR, hv, he, h⟩ := h
    cases he
    exact h _ (hR.setVal hv) But.set
theorem vgs_nil : VGs X P [] gE [] := PGs_mono pgs_nil fun vs σ H Q h => by
  obtain ⟨ρ, F, ds, ρ', hR, hv, he, h⟩ := h
  cases hv with
  | nil => cases he; exact ⟨rfl, h _ hR (But.refl _ _)⟩
  | cons _ _ => cases he
theorem bind_some {α β : Type} {o : Option α} {k : α → Option β} {b : β} (h : o.bind k = some b) : ∃ a, o = some a ∧ k a = some b := by
  cases o with
  | none => cases h
  | some a => exact ⟨a, rfl, h⟩
theorem vgs_cons {js js' : List Nat} (h1 : VG X P e m js) (h2 : VGs X P es ms js') (hs : (assignEach (e :: es) X.env).map (·.2) = assign e X.env :: (assignEach es X.env).map (·.2) := by rfl) : VGs X P (e :: es) (gC m ms) (js ++ js') := PGs_mono (pgs_cons h1 h2 hs) fun vs σ H Q h => by
  obtain ⟨ρ, F, ds, ρ', hR, hv, he, h⟩ := h
  cases hv with
  | nil => cases he
  | @cons v vs d ds h1 h2 =>
    obtain ⟨ρ1, e1, e2⟩ := bind_some he
    exact ⟨v, vs, rfl, ρ, F, d, ρ1, hR, h1, e1, fun σ' r' b1 => ⟨ρ1, F, ds, ρ', r', h2, e2, fun σ2 r2 b2 => h σ2 r2 (b1.trans b2)⟩⟩
theorem PG_or {t t' : TG} (h1 : PG X e t) (h2 : PG X e t') : PG X e (fun v σ H Q => t v σ H Q ∨ t' v σ H Q) := ⟨fun pins s σ H v u Q I r q => q.elim (h1.run pins s σ H v u Q I r) (h2.run pins s σ H v u Q I r)⟩
theorem if_some {α : Type} {p : Prop} [Decidable p] {o : Option α} {r : α} (h : (if p then o else none) = some r) : p ∧ o = some r := by
  by_cases hp : p
  · rw [if_pos hp] at h; exact ⟨hp, h⟩
  · rw [if_neg hp] at h; cases h
theorem vg_tup {k n : Nat} {js : List Nat} (hc : X.calm = true) (h : VGs X P es ms js) (hn : (assignEach es X.env).length = n := by rfl) (hst : (assignEach es X.env).findIdx? (·.1) = none := by rfl) : VG X P (.Tuple es k pos) (gT n ms) js :=
  PG_mono (PG_or (pg_tup hc h hn hst) (pg_lst hc h hn hst)) fun v σ H Q h => by
    obtain ⟨ρ, F, d, ρ', hR, hv, he, h⟩ := h
    cases hv with
    | @lst a xs ds hs hz ha =>
      obtain ⟨hl, e⟩ := if_some he
      exact .inr ⟨a, xs, rfl, hR.fh.seq hs, by rw [ha.length]; exact hl, ρ, F, ds, ρ', hR, ha, e, h⟩
    | @tup a xs ds hs hz ha =>
      obtain ⟨hl, e⟩ := if_some he
      exact .inl ⟨a, xs, rfl, same_sqT hR.fh hs, by rw [ha.length]; exact hl, ρ, F, ds, ρ', hR, ha, e, h⟩
    | _ => cases he
def sAsg (f : Evn → RE PyData) (m : PyData → Evn → Option Evn) (ρ : Evn) : RS := ((f ρ).at ρ).bind fun d => (oS (m d ρ)).bind fun ρ' => .ok (.nx, ρ')
theorem vs_asg {tg : Expr} {js : List Nat} (he : VE X P e fe) (hg : VG X P tg m js) (hs : swapsWithSole [tg] e pos.line X.env = pure false := by rfl) (hw : swappedStores [tg] e X.env = pure none := by rfl)
    (h1 : (assignEach [tg] X.env).map (·.2) = [assign tg X.env] := by rfl) : VS X P (.Assign [tg] e pos) (sAsg fe m) := PS_mono (ps_asg he hg hs hw h1) fun D σ H h => by
  obtain ⟨ρ, F, hR, h⟩ := h
  refine OutS.first hR h fun d v F1 H1 e1 hv R1 h1 => ?_
  cases q : m d ρ with
  | some ρ' => rw [q] at h1; exact ⟨ρ, F1, d, ρ', R1, hv, q, fun σ' r _ => h1 σ' H1 F1 (Same.refl _) r⟩
  | none => rw [q] at h1; exact h1.elim
/-- a, b = x, y, plain local names -/
def sPar (i j : Nat) (fa : Evn → RE (List PyData)) (ρ : Evn) : RS := ((fa ρ).at ρ).bind fun ds => match ds with
  | [d, e] => .ok (.nx, (ρ.set i (some (.val d))).set j (some (.val e)))
  | _ => .bad
theorem OutS.firstA {D : Ends} {ρ : Evn} {F H : Hp} {σ : Sg} {fa : Evn → RE (List PyData)} {k : List PyData → RS} {Q' : List V → Hp → Prop} (hR : Rep X.K P ρ F σ H) (h : OutS X P D F (((fa ρ).at ρ).bind k))
    (hq : ∀ d v F1 H1, Ext F H F1 H1 → VdAll X.K F1 v d → Rep X.K P ρ F1 σ H1 → OutS X P D F1 (k d) → Q' v H1) : tAV X P fa σ H Q' := by
  refine ⟨ρ, F, hR, ?_⟩
  cases q : fa ρ with
  | ok d => rw [q] at h; exact fun v H' F' ex hv => hq d v F' H' ex hv (hR.step ex) (OutS.step h ex.ff)
  | exc c u => rw [q] at h; exact fun C H' F' hm ex => h C σ H' F' hm ex.ff (hR.step ex)
  | bad => rw [q] at h; exact h.elim
theorem vs_par (i j : Nat) {x y : Str} {a b : Expr} {fa : Evn → RE (List PyData)} {px py pt : Pos} {kt k2 : Nat} {pt2 : Pos} (hc : X.calm = true) (hN : X.N.Nodup) (ha : VA X P [a, b] fa) (hi : X.N[i]? = some x := by rfl) (hj : X.N[j]? = some y := by rfl) (hij : i ≠ j := by decide)
    (hx : X.env.scope.names.lookup x = some .local := by rfl) (hy : X.env.scope.names.lookup y = some .local := by rfl)
    (hw : swappedStores [.Tuple [.Name x px, .Name y py] kt pt] (.Tuple [a, b] k2 pt2) X.env = pure (some [x, y]) := by rfl)
    (hs : swapsWithSole [.Tuple [.Name x px, .Name y py] kt pt] (.Tuple [a, b] k2 pt2) pos.line X.env = pure false := by rfl) :
    VS X P (.Assign [.Tuple [.Name x px, .Name y py] kt pt] (.Tuple [a, b] k2 pt2) pos) (sPar i j fa) := PS_mono (ps_par hc hN hi hj hij hx hy ha hw hs) fun D σ H h => by
  obtain ⟨ρ, F, hR, h⟩ := h
  refine OutS.firstA hR h fun ds vs F1 H1 e1 hv R1 h1 => ?_
  match ds, hv, h1 with
  | [d, e], hv, h1 =>
    obtain ⟨v, u, rfl, k1, k2⟩ := vd2 hv
    exact ⟨v, u, rfl, h1 _ H1 F1 (Same.refl _) ((R1.setVal k1).setVal k2)⟩
  | [], _, h1 => exact h1.elim
  | [_], _, h1 => exact h1.elim
  | _ :: _ :: _ :: _, _, h1 => exact h1.elim
end

/-! ### what is walked -/
/-- at each turn the walk yields the datum -/
structure WalkOk (K : PySem.W.Frag) (J : It) (F : Hp) (ds : List PyData) : Prop where
  go : ∀ i F1 H, Same F F1 → Same F1 H → i < ds.length → J.go i H
  yld : ∀ i d F1 H x H', Same F F1 → Same F1 H → ds[i]? = some d → J.yld i H x H' → ∃ F', Ext F1 H F' H' ∧ Vd K F' x d
  stop : ∀ i F1 H, Same F F1 → Same F1 H → ds.length ≤ i → J.stop i H
def tIV (X : Cx) (P : Pm) (g : Evn → RE (List PyData)) : TI := fun σ H Rr => ∃ ρ F, Rep X.K P ρ F σ H ∧
  (g ρ).post (fun ds => ∀ J H' F', Ext F H F' H' → WalkOk X.K J F' ds → Rr J H') (fun c _ => ∀ C H' F', X.mg c = some (.ref C) → Ext F H F' H' → P.W (.ref C) none σ H')
def VI (X : Cx) (P : Pm) (tg e : Expr) (g : Evn → RE (List PyData)) : Prop := PI X tg e (tIV X P g)
theorem PI_mono {X : Cx} {tg e : Expr} {t t' : TI} (h : PI X tg e t) (m : ∀ σ H R, t' σ H R → t σ H R) : PI X tg e t' := ⟨fun pins s σ H R I q => h.run pins s σ H R I (m σ H R q)⟩
section
variable {X : Cx} {P : Pm} {pos p : Pos} {tg e : Expr} {fe : Evn → RE PyData} {fa : Evn → RE (List PyData)}
theorem walk_list {F : Hp} {a : Addr} {xs : List V} {ds : List PyData} (hs : SqL X.K F a xs) (ha : VdAll X.K F xs ds) : WalkOk X.K (Itl X.K a) F ds where
  go := fun i F1 H s1 s2 hi => by
    obtain ⟨x, hx, _⟩ := ha.get (List.getElem?_eq_getElem hi)
    exact ⟨xs, x, s2.seq (s1.seq hs), hx⟩
  yld := fun i d F1 H x H' s1 s2 hd ⟨e, hy⟩ => by
    subst e
    obtain ⟨x', hx, hv⟩ := ha.get hd
    have := hy xs (s2.seq (s1.seq hs))
    rw [hx] at this
    cases this
    exact ⟨F1, Ext.refl s2, Vd.mono s1 d x hv⟩
  stop := fun i F1 H s1 s2 hi => ⟨xs, s2.seq (s1.seq hs), by rw [ha.length]; exact hi⟩
theorem walk_tup {F : Hp} {a : Addr} {xs : List V} {ds : List PyData} (hs : SqT X.K F a xs) (ha : VdAll X.K F xs ds) : WalkOk X.K (Itt X.K a) F ds where
  go := fun i F1 H s1 s2 hi => by
    obtain ⟨x, hx, _⟩ := ha.get (List.getElem?_eq_getElem hi)
    exact ⟨xs, x, same_sqT s2 (same_sqT s1 hs), hx⟩
  yld := fun i d F1 H x H' s1 s2 hd ⟨e, hy⟩ => by
    subst e
    obtain ⟨x', hx, hv⟩ := ha.get hd
    have := hy xs (same_sqT s2 (same_sqT s1 hs))
    rw [hx] at this
    cases this
    exact ⟨F1, Ext.refl s2, Vd.mono s1 d x hv⟩
  stop := fun i F1 H s1 s2 hi => ⟨xs, same_sqT s2 (same_sqT s1 hs), by rw [ha.length]; exact hi⟩
def chars (x : Str) : List PyData := x.cps.toList.map fun c => .str ⟨#[c]⟩
theorem walk_str {F : Hp} {x : Str} (hx : PyData.strOk x = true) : WalkOk X.K (Its x) F (chars x) where
  go := fun i F1 H s1 s2 hi => by
    show i < x.cps.size
    unfold chars at hi
    rw [List.length_map, Array.length_toList] at hi
    exact hi
  yld := fun i d F1 H v H' s1 s2 hd ⟨e, c, hc, hv⟩ => by
    subst e hv
    unfold chars at hd
    have hc' : x.cps.toList[i]? = some c := by rw [Array.getElem?_toList]; exact hc
    rw [List.getElem?_map, hc'] at hd
    cases hd
    refine ⟨F1, Ext.refl s2, .str _ ?_⟩
    exact strOk_at hx (i := (i : Int)) (atI_nat hc')
  stop := fun i F1 H s1 s2 hi => by
    show x.cps.size ≤ i
    unfold chars at hi
    rw [List.length_map, Array.length_toList] at hi
    exact hi
def itemsOf : PyData → Option (List PyData)
  | .list ds => some ds
  | .tuple ds => some ds
  | .str x => some (chars x)
  | _ => none
def mItems (f : Evn → RE PyData) (ρ : Evn) : RE (List PyData) := (f ρ).bind fun d => ofO (itemsOf d)
theorem PI_or3 {t t' t'' : TI} (h1 : PI X tg e t) (h2 : PI X tg e t') (h3 : PI X tg e t'') : PI X tg e (fun σ H R => t σ H R ∨ t' σ H R ∨ t'' σ H R) :=
  ⟨fun pins s σ H R I q => by rcases q with q | q | q; exact h1.run pins s σ H R I q; exact h2.run pins s σ H R I q; exact h3.run pins s σ H R I q⟩
theorem vi_items (he : VE X P e fe) : VI X P tg e (mItems fe) := PI_mono (PI_or3 (pi_list he) (pi_tup he) (pi_str he)) fun σ H Rr h => by
  obtain ⟨ρ, F, hR, h⟩ := h
  unfold mItems at h
  cases q : fe ρ with
  | bad => rw [q] at h; exact h.elim
  | exc c u =>
    rw [q] at h
    refine .inl ⟨ρ, F, hR, ?_⟩
    rw [q]; exact h
  | ok d =>
    rw [q] at h
    have h' : PV.R.post (ofO (itemsOf d)) (fun ds => ∀ J H' F', Ext F H F' H' → WalkOk X.K J F' ds → Rr J H') (fun c _ => ∀ C H' F', X.mg c = some (.ref C) → Ext F H F' H' → P.W (.ref C) none σ H') := h
    cases d with
    | list ds =>
      refine .inl ⟨ρ, F, hR, ?_⟩
      rw [q]
      intro v H' F' ex hv
      cases hv with
      | lst hs hz ha => exact ⟨_, rfl, ⟨_, (hR.step ex).fh.seq hs⟩, h' _ H' F' ex (walk_list hs ha)⟩
    | tuple ds =>
      refine .inr (.inl ⟨ρ, F, hR, ?_⟩)
      rw [q]
      intro v H' F' ex hv
      cases hv with
      | tup hs hz ha => exact ⟨_, rfl, ⟨_, same_sqT (hR.step ex).fh hs⟩, h' _ H' F' ex (walk_tup hs ha)⟩
    | str x =>
      refine .inr (.inr ⟨ρ, F, hR, ?_⟩)
      rw [q]
      intro v H' F' ex hv
      cases hv with
      | str _ hx => exact ⟨x, rfl, h' _ H' F' ex (walk_str hx)⟩
    | _ => exact h'.elim
/-! range -/
def rangeL (lo : Int) (n : Nat) : List PyData := (List.range n).map fun (i : Nat) => .int (lo + i)
theorem rangeL_len (lo : Int) (n : Nat) : (rangeL lo n).length = n := by unfold rangeL; rw [List.length_map, List.length_range]
theorem walk_range {F : Hp} (lo : Int) (n : Nat) : WalkOk X.K (Itr lo n) F (rangeL lo n) where
  go := fun i F1 H s1 s2 hi => by rw [rangeL_len] at hi; exact hi
  yld := fun i d F1 H x H' s1 s2 hd ⟨e, hx⟩ => by
    subst e hx
    unfold rangeL at hd
    rw [List.getElem?_map] at hd
    cases q : (List.range n)[i]? with
    | none => rw [q] at hd; cases hd
    | some j =>
      rw [q] at hd
      cases hd
      obtain ⟨h1, h2⟩ := List.getElem?_eq_some_iff.mp q
      rw [List.getElem_range] at h2
      subst h2
      exact ⟨F1, Ext.refl s2, .int _⟩
  stop := fun i F1 H s1 s2 hi => by rw [rangeL_len] at hi; exact hi
def r62 (i : Int) : Prop := -(2 ^ 62) ≤ i ∧ i < 2 ^ 62
instance (i : Int) : Decidable (r62 i) := by unfold r62; exact inferInstance
def rng1 : List PyData → Option (List PyData)
  | [.int j] => if r62 j then some (rangeL 0 j.toNat) else none
  | _ => none
def rng2 : List PyData → Option (List PyData)
  | [.int i, .int j] => if r62 i ∧ r62 j then some (rangeL i (j - i).toNat) else none
  | _ => none
/-- a walk of what a call gives -/
def mWk (g : List PyData → Option (List PyData)) (fa : Evn → RE (List PyData)) (ρ : Evn) : RE (List PyData) := (fa ρ).bind fun ds => ofO (g ds)
theorem firstI {σ : Sg} {H F : Hp} {ρ : Evn} {Rr : It → Hp → Prop} {g : List PyData → Option (List PyData)} {Q' : List V → Hp → Prop} (hR : Rep X.K P ρ F σ H)
    (h : (mWk g fa ρ).post (fun ds => ∀ J H' F', Ext F H F' H' → WalkOk X.K J F' ds → Rr J H') (fun c _ => ∀ C H' F', X.mg c = some (.ref C) → Ext F H F' H' → P.W (.ref C) none σ H'))
    (hq : ∀ d ds v F1 H1, VdAll X.K F1 v d → Rep X.K P ρ F1 σ H1 → g d = some ds → (∀ J H' F', Ext F1 H1 F' H' → WalkOk X.K J F' ds → Rr J H') → Q' v H1) : tAV X P fa σ H Q' := by
  refine ⟨ρ, F, hR, ?_⟩
  refine R.post_mono (R.post_bind h) (fun d q v H' F' e hv => ?_) (fun c _ q => q)
  cases e2 : g d with
  | none => rw [e2] at q; exact q.elim
  | some ds => rw [e2] at q; exact hq d ds v F' H' hv (hR.step e) e2 fun J H2 F2 e3 => q J H2 F2 (e.trans e3)
theorem vi_range1 {a : Expr} (hg : Gl X "range") (hm : X.mg "range" = none) (ha : VA X P [a] fa) (hs : starEach [a] X.env = [(false, eval a X.env)] := by rfl) : VI X P tg (.Call (.Name "range" p) [a] [] pos) (mWk rng1 fa) := PI_mono (pi_range1 hg hm ha hs) fun σ H Rr h => by
  obtain ⟨ρ, F, hR, h⟩ := h
  refine firstI hR h fun d ds vs F1 H1 hv R1 hd h1 => ?_
  unfold rng1 at hd
  split at hd
  · obtain ⟨hp, rfl⟩ := some_of_if hd
    obtain ⟨v, rfl, k1⟩ := vd1 hv
    cases k1
    exact ⟨_, rfl, hp.1, hp.2, h1 _ H1 F1 (Ext.refl R1.fh) (walk_range 0 _)⟩
  · cases hd
theorem vi_range2 {a b : Expr} (hg : Gl X "range") (hm : X.mg "range" = none) (ha : VA X P [a, b] fa) (hs : starEach [a, b] X.env = [(false, eval a X.env), (false, eval b X.env)] := by rfl) (hs2 : starEach [b] X.env = [(false, eval b X.env)] := by rfl) :
    VI X P tg (.Call (.Name "range" p) [a, b] [] pos) (mWk rng2 fa) := PI_mono (pi_range2 hg hm ha hs hs2) fun σ H Rr h => by
  obtain ⟨ρ, F, hR, h⟩ := h
  refine firstI hR h fun d ds vs F1 H1 hv R1 hd h1 => ?_
  unfold rng2 at hd
  split at hd
  · obtain ⟨hp, rfl⟩ := some_of_if hd
    obtain ⟨v, u, rfl, k1, k2⟩ := vd2 hv
    cases k1
    cases k2
    exact ⟨_, _, rfl, ⟨hp.1.1, hp.1.2, hp.2.1, hp.2.2⟩, h1 _ H1 F1 (Ext.refl R1.fh) (walk_range _ _)⟩
  · cases hd
/-! enumerate, zip, reversed -/
def enumL (k : Nat) : List PyData → List PyData
  | [] => []
  | d :: r => .tuple [.int (k : Nat), d] :: enumL (k + 1) r
theorem enumL_get : ∀ (ds : List PyData) (k i : Nat), (enumL k ds)[i]? = (ds[i]?).map fun d => .tuple [.int ((k + i : Nat) : Int), d]
  | [], k, i => by simp [enumL]
  | d :: r, k, 0 => by simp [enumL]
  | d :: r, k, i + 1 => by
    simp only [enumL, List.getElem?_cons_succ, enumL_get r (k + 1) i]
    rw [show k + 1 + i = k + (i + 1) from by omega]
theorem enumL_len : ∀ (ds : List PyData) (k : Nat), (enumL k ds).length = ds.length
  | [], _ => rfl
  | d :: r, k => by simp only [enumL, List.length_cons, enumL_len r]
theorem two_line : 2 ≤ sizeLine := by rw [sizeLine_eq]; omega
theorem new_pair {F H : Hp} {T : Addr} {x y : V} {d e : PyData} (sf : Same F H) (n : H T = none) (h1 : Vd X.K F x d) (h2 : Vd X.K F y e) : ∃ F', Ext F H F' (upd H T (.tup [x, y])) ∧ Vd X.K F' (.ref T) (.tuple [d, e]) :=
  ⟨upd F T (.tup [x, y]), Ext.new sf n, .tup (SqT.of upd_same) two_line (VdAll.mono (same_upd (sf.free n)) _ _ (.cons h1 (.cons h2 .nil)))⟩
theorem walk_enum {F : Hp} {a : Addr} {xs : List V} {ds : List PyData} (hs : SqL X.K F a xs) (ha : VdAll X.K F xs ds) : WalkOk X.K (Ite X.K a) F (enumL 0 ds) where
  go := fun i F1 H s1 s2 hi => by
    rw [enumL_len] at hi
    obtain ⟨x, hx, _⟩ := ha.get (List.getElem?_eq_getElem hi)
    exact ⟨xs, x, s2.seq (s1.seq hs), hx⟩
  yld := fun i d F1 H x H' s1 s2 hd ⟨T, y, e1, n, e2, hy⟩ => by
    subst e1 e2
    rw [enumL_get] at hd
    cases q : ds[i]? with
    | none => rw [q] at hd; cases hd
    | some d' =>
      rw [q] at hd
      cases hd
      obtain ⟨x', hx, hv⟩ := ha.get q
      have := hy xs (s2.seq (s1.seq hs))
      rw [hx] at this
      cases this
      rw [Nat.zero_add]
      exact new_pair s2 n (.int _) (Vd.mono s1 d' _ hv)
  stop := fun i F1 H s1 s2 hi => ⟨xs, s2.seq (s1.seq hs), by rw [ha.length, ← enumL_len ds 0]; exact hi⟩
def enum1 : List PyData → Option (List PyData)
  | [.list ds] => some (enumL 0 ds)
  | _ => none
theorem vi_enum {e : Expr} {elts : List Expr} {kk : Nat} {tpos : Pos} (hg : Gl X "enumerate") (hm : X.mg "enumerate" = none) (ha : VA X P [e] fa) (hs : starEach [e] X.env = [(false, eval e X.env)] := by rfl) :
    VI X P (.Tuple elts kk tpos) (.Call (.Name "enumerate" p) [e] [] pos) (mWk enum1 fa) := PI_mono (pi_enum hg hm ha hs) fun σ H Rr h => by
  obtain ⟨ρ, F, hR, h⟩ := h
  refine firstI hR h fun d ds vs F1 H1 hv R1 hd h1 => ?_
  unfold enum1 at hd
  split at hd
  · cases hd
    obtain ⟨v, rfl, k1⟩ := vd1 hv
    cases k1 with
    | lst hs hz ha => exact ⟨_, _, rfl, R1.fh.seq hs, h1 _ H1 F1 (Ext.refl R1.fh) (walk_enum hs ha)⟩
  · cases hd
def zipL : List PyData → List PyData → List PyData
  | d :: r, e :: s => .tuple [d, e] :: zipL r s
  | _, _ => []
theorem zipL_get : ∀ (ds es : List PyData) (i : Nat) (z : PyData), (zipL ds es)[i]? = some z → ∃ d e, ds[i]? = some d ∧ es[i]? = some e ∧ z = .tuple [d, e]
  | [], _, i, z, h => by simp [zipL] at h
  | d :: r, [], i, z, h => by simp [zipL] at h
  | d :: r, e :: s, 0, z, h => by simp only [zipL, List.getElem?_cons_zero, Option.some.injEq] at h; exact ⟨d, e, rfl, rfl, h.symm⟩
  | d :: r, e :: s, i + 1, z, h => by
    simp only [zipL, List.getElem?_cons_succ] at h
    obtain ⟨d', e', h1, h2, h3⟩ := zipL_get r s i z h
    exact ⟨d', e', by simpa using h1, by simpa using h2, h3⟩
theorem zipL_len : ∀ (ds es : List PyData), (zipL ds es).length = min ds.length es.length
  | [], _ => by simp [zipL]
  | d :: r, [] => by simp [zipL]
  | d :: r, e :: s => by simp only [zipL, List.length_cons, zipL_len r s]; omega
theorem walk_zip {F : Hp} {a b : Addr} {xs ys : List V} {ds es : List PyData} (hs : SqL X.K F a xs) (ha : VdAll X.K F xs ds) (hs2 : SqL X.K F b ys) (hb : VdAll X.K F ys es) : WalkOk X.K (Itz X.K a b) F (zipL ds es) where
  go := fun i F1 H s1 s2 hi => by
    rw [zipL_len] at hi
    obtain ⟨x, hx, _⟩ := ha.get (List.getElem?_eq_getElem (show i < ds.length by omega))
    obtain ⟨y, hy, _⟩ := hb.get (List.getElem?_eq_getElem (show i < es.length by omega))
    exact ⟨xs, ys, x, y, s2.seq (s1.seq hs), s2.seq (s1.seq hs2), hx, hy⟩
  yld := fun i d F1 H x H' s1 s2 hd ⟨T, y, z, e1, n, e2, hy, hz⟩ => by
    subst e1 e2
    obtain ⟨d', e', h1, h2, rfl⟩ := zipL_get _ _ _ _ hd
    obtain ⟨x', hx, hv⟩ := ha.get h1
    obtain ⟨y', hy', hv2⟩ := hb.get h2
    have q1 := hy xs (s2.seq (s1.seq hs))
    rw [hx] at q1
    cases q1
    have q2 := hz ys (s2.seq (s1.seq hs2))
    rw [hy'] at q2
    cases q2
    exact new_pair s2 n (Vd.mono s1 d' _ hv) (Vd.mono s1 e' _ hv2)
  stop := fun i F1 H s1 s2 hi => by
    rw [zipL_len] at hi
    have l1 := ha.length
    have l2 := hb.length
    exact ⟨xs, ys, s2.seq (s1.seq hs), s2.seq (s1.seq hs2), by omega⟩
def zip2 : List PyData → Option (List PyData)
  | [.list ds, .list es] => some (zipL ds es)
  | _ => none
theorem vi_zip {e e2 : Expr} {elts : List Expr} {kk : Nat} {tpos : Pos} (hg : Gl X "zip") (hm : X.mg "zip" = none) (ha : VA X P [e, e2] fa) (hs : starEach [e, e2] X.env = (false, eval e X.env) :: starEach [e2] X.env := by rfl) (hpl : (backTo pos (starEach [e2] X.env)).any (·.1) = false := by rfl) :
    VI X P (.Tuple elts kk tpos) (.Call (.Name "zip" p) [e, e2] [] pos) (mWk zip2 fa) := PI_mono (pi_zip hg hm ha hs hpl) fun σ H Rr h => by
  obtain ⟨ρ, F, hR, h⟩ := h
  refine firstI hR h fun d ds vs F1 H1 hv R1 hd h1 => ?_
  unfold zip2 at hd
  split at hd
  · cases hd
    obtain ⟨v, u, rfl, k1, k2⟩ := vd2 hv
    cases k1 with
    | lst hs hz ha =>
      cases k2 with
      | lst hs2 hz2 ha2 => exact ⟨_, _, _, _, rfl, R1.fh.seq hs, R1.fh.seq hs2, h1 _ H1 F1 (Ext.refl R1.fh) (walk_zip hs ha hs2 ha2)⟩
  · cases hd
theorem rev_get {α : Type} (ds : List α) {i : Nat} (h : i < ds.length) : ds.reverse[i]? = ds[ds.length - 1 - i]? := List.getElem?_reverse h
theorem walk_rev {F : Hp} {a : Addr} {xs : List V} {ds : List PyData} (hs : SqL X.K F a xs) (ha : VdAll X.K F xs ds) : WalkOk X.K (Itv X.K a xs.length) F ds.reverse where
  go := fun i F1 H s1 s2 hi => by
    rw [List.length_reverse, ← ha.length] at hi
    exact ⟨hi, xs, xs[xs.length - 1 - i], s2.seq (s1.seq hs), List.getElem?_eq_getElem (by omega)⟩
  yld := fun i d F1 H x H' s1 s2 hd ⟨e, hy⟩ => by
    subst e
    have hl : i < ds.length := by
      have := (List.getElem?_eq_some_iff.mp hd).1
      rwa [List.length_reverse] at this
    rw [rev_get ds hl] at hd
    obtain ⟨x', hx, hv⟩ := ha.get hd
    have := hy xs (s2.seq (s1.seq hs))
    rw [ha.length, hx] at this
    cases this
    exact ⟨F1, Ext.refl s2, Vd.mono s1 d x hv⟩
  stop := fun i F1 H s1 s2 hi => by
    rw [List.length_reverse, ← ha.length] at hi
    exact hi
def rev1 : PyData → Option (List PyData)
  | .list ds => some ds.reverse
  | .tuple ds => some ds.reverse
  | _ => none
def mRev (f : Evn → RE PyData) (ρ : Evn) : RE (List PyData) := (f ρ).bind fun d => ofO (rev1 d)
theorem walk_revT {F : Hp} {a : Addr} {xs : List V} {ds : List PyData} (hs : SqT X.K F a xs) (ha : VdAll X.K F xs ds) : WalkOk X.K (ItvT X.K a xs.length) F ds.reverse where
  go := fun i F1 H s1 s2 hi => by
    rw [List.length_reverse, ← ha.length] at hi
    exact ⟨hi, xs, xs[xs.length - 1 - i], same_sqT s2 (same_sqT s1 hs), List.getElem?_eq_getElem (by omega)⟩
  yld := fun i d F1 H x H' s1 s2 hd ⟨e, hy⟩ => by
    subst e
    have hl : i < ds.length := by
      have := (List.getElem?_eq_some_iff.mp hd).1
      rwa [List.length_reverse] at this
    rw [rev_get ds hl] at hd
    obtain ⟨x', hx, hv⟩ := ha.get hd
    have := hy xs (same_sqT s2 (same_sqT s1 hs))
    rw [ha.length, hx] at this
    cases this
    exact ⟨F1, Ext.refl s2, Vd.mono s1 d x hv⟩
  stop := fun i F1 H s1 s2 hi => by
    rw [List.length_reverse, ← ha.length] at hi
    exact hi
theorem vi_rev {e : Expr} (hg : Gl X "reversed") (hm : X.mg "reversed" = none) (he : VE X P e fe) (hs : starEach [e] X.env = (false, eval e X.env) :: starEach [] X.env := by rfl) : VI X P tg (.Call (.Name "reversed" p) [e] [] pos) (mRev fe) := PI_mono (pi_revA hg hm he hs) fun σ H Rr h => by
  obtain ⟨ρ, F, hR, h⟩ := h
  refine ⟨ρ, F, hR, ?_⟩
  refine R.post_mono (R.post_bind h) (fun d q v H' F' ex hv => ?_) (fun c _ q => q)
  have sf := (hR.step ex).fh
  cases hv with
  | lst hs hz ha => exact ⟨_, _, rfl, .inl ⟨sf.seq hs, q _ H' F' ex (walk_rev hs ha)⟩⟩
  | tup hs hz ha => exact ⟨_, _, rfl, .inr ⟨same_sqT sf hs, q _ H' F' ex (walk_revT hs ha)⟩⟩
  | _ => exact q.elim
end
end PV
end
section
set_option Elab.async false
set_option linter.all false
set_option maxRecDepth 100000
set_option maxHeartbeats 4000000
namespace PV
open PySem PySem.Spec PyProof.Rows L2

/-! ### loops -/
def forM (m : PyData → Evn → Option Evn) (body : Evn → RS) : List PyData → Evn → RS
  | [], ρ => .ok (.nx, ρ)
  | d :: r, ρ => (oS (m d ρ)).bind fun ρ1 => (body ρ1).bind fun p => match p.1 with
    | .nx => forM m body r p.2
    | .ct => forM m body r p.2
    | .bk => .ok (.nx, p.2)
    | .rt d => .ok (.rt d, p.2)
def sFor (g : Evn → RE (List PyData)) (m : PyData → Evn → Option Evn) (body : Evn → RS) (ρ : Evn) : RS := ((g ρ).at ρ).bind fun ds => forM m body ds ρ
def whileM (c : Evn → RE Bool) (body : Evn → RS) : Nat → Evn → RS
  | 0, _ => .bad
  | n + 1, ρ => ((c ρ).at ρ).bind fun b => if b then (body ρ).bind fun p => match p.1 with
    | .nx => whileM c body n p.2
    | .ct => whileM c body n p.2
    | .bk => .ok (.nx, p.2)
    | .rt d => .ok (.rt d, p.2)
    else .ok (.nx, ρ)
section
variable {X : Cx} {P : Pm} {pos : Pos} {tg iter : Expr} {body : List Stmt} {g : Evn → RE (List PyData)} {m : PyData → Evn → Option Evn} {fb : Evn → RS} {fc : Evn → RE Bool}
theorem vs_for {js : List Nat} (hp : PassesOwn (model X.prog X.w) X.A X.env X.xe) (hc : X.calm = true) (hi : VI X P tg iter g) (hg : VG X P tg m js) (hb : VSs X P body fb) (hs : ∀ x, foldedSetIterable iter X.env x = pure x := by intro _; rfl) : VS X P (.For tg iter body [] pos) (sFor g m fb) :=
  PS_mono (ps_for hp hc hi hg hb hs) fun D σ H h => by
    obtain ⟨ρ, F, hR, h⟩ := h
    refine ⟨ρ, F, hR, ?_⟩
    unfold sFor at h
    cases q : g ρ with
    | bad => rw [q] at h; exact h.elim
    | exc c u => rw [q] at h; exact fun C H' F' hm ex => h C σ H' F' hm ex.ff (hR.step ex)
    | ok ds =>
      rw [q] at h
      have h' : OutS X P D F (forM m fb ds ρ) := h
      intro J H0 F0 ex wk
      refine ⟨fun i k σ H => k = ds.length - i ∧ i ≤ ds.length ∧ ∃ ρ F1, Same F0 F1 ∧ Rep X.K P ρ F1 σ H ∧ OutS X P D F1 (forM m fb (ds.drop i) ρ), ⟨ds.length, by simp, Nat.zero_le _, ρ, F0, Same.refl _, hR.step ex, by rw [List.drop_zero]; exact OutS.step h' ex.ff⟩, ?_⟩
      rintro i k σ1 H1 ⟨rfl, hi, ρ1, F1, s1, R1, h1⟩
      by_cases hlt : i < ds.length
      · right
        refine ⟨wk.go i F1 H1 s1 R1.fh hlt, fun σ' H' => ∃ ρ F2, Same F0 F2 ∧ Rep X.K P ρ F2 σ' H' ∧ OutS X P D F2 (forM m fb (ds.drop (i + 1)) ρ), fun σ' H' n => ⟨ds.length - (i + 1), by omega, rfl, hlt, n⟩, fun x H' y => ?_⟩
        obtain ⟨F2, e2, hv⟩ := wk.yld i _ F1 H1 x H' s1 R1.fh (List.getElem?_eq_getElem hlt) y
        rw [List.drop_eq_getElem_cons hlt] at h1
        have R2 := R1.step e2
        have h2 := OutS.step h1 e2.ff
        unfold forM at h2
        cases q2 : m ds[i] ρ1 with
        | none => rw [q2] at h2; exact h2.elim
        | some ρ2 =>
          rw [q2] at h2
          refine ⟨ρ1, F2, _, ρ2, R2, hv, q2, fun σ2 r2 _ => ⟨ρ2, F2, r2, ?_⟩⟩
          have h3 : OutS X P D F2 ((fb ρ2).bind fun p => match p.1 with
            | .nx => forM m fb (ds.drop (i + 1)) p.2
            | .ct => forM m fb (ds.drop (i + 1)) p.2
            | .bk => .ok (.nx, p.2)
            | .rt d => .ok (.rt d, p.2)) := h2
          have s02 := s1.trans e2.ff
          cases q3 : fb ρ2 with
          | bad => rw [q3] at h3; exact h3.elim
          | exc c ρ3 => rw [q3] at h3; exact h3
          | ok p =>
            rw [q3] at h3
            obtain ⟨fl, ρ3⟩ := p
            cases fl with
            | nx => exact fun σ' H' F' s r => ⟨ρ3, F', s02.trans s, r, OutS.step h3 s⟩
            | ct => exact fun σ' H' F' s r => ⟨ρ3, F', s02.trans s, r, OutS.step h3 s⟩
            | bk => exact h3
            | rt d => exact h3
      · left
        have e : ds.drop i = [] := List.drop_eq_nil_of_le (by omega)
        rw [e] at h1
        exact ⟨wk.stop i F1 H1 s1 R1.fh (by omega), h1 σ1 H1 F1 (Same.refl _) R1⟩
theorem vs_while (fuel : Nat) {c : Expr} (hp : PassesOwn (model X.prog X.w) X.A X.env X.xe) (hc : VT X P c fc) (hb : VSs X P body fb) : VS X P (.While c body [] pos) (whileM fc fb fuel) :=
  PS_mono (ps_while hp hc hb) fun D σ H h => by
    obtain ⟨ρ, F, hR, h⟩ := h
    refine ⟨fun k σ H => ∃ ρ F, Rep X.K P ρ F σ H ∧ OutS X P D F (whileM fc fb k ρ), ⟨fuel, ρ, F, hR, h⟩, ?_⟩
    rintro k σ1 H1 ⟨ρ1, F1, R1, h1⟩
    cases k with
    | zero => exact h1.elim
    | succ k =>
      unfold whileM at h1
      refine OutS.firstB R1 h1 fun b F2 H2 e2 R2 h2 => ?_
      cases b with
      | false => rw [if_neg (by decide)]; exact h2 σ1 H2 F2 (Same.refl _) R2
      | true =>
        rw [if_pos rfl]
        refine ⟨fun σ' H' => ∃ ρ F, Rep X.K P ρ F σ' H' ∧ OutS X P D F (whileM fc fb k ρ), fun σ' H' n => ⟨k, Nat.lt_succ_self _, n⟩, ρ1, F2, R2, ?_⟩
        have h3 : OutS X P D F2 ((fb ρ1).bind fun p => match p.1 with
          | .nx => whileM fc fb k p.2
          | .ct => whileM fc fb k p.2
          | .bk => .ok (.nx, p.2)
          | .rt d => .ok (.rt d, p.2)) := h2
        cases q3 : fb ρ1 with
        | bad => rw [q3] at h3; exact h3.elim
        | exc c ρ3 => rw [q3] at h3; exact h3
        | ok p =>
          rw [q3] at h3
          obtain ⟨fl, ρ3⟩ := p
          cases fl with
          | nx => exact fun σ' H' F' s r => ⟨ρ3, F', r, OutS.step h3 s⟩
          | ct => exact fun σ' H' F' s r => ⟨ρ3, F', r, OutS.step h3 s⟩
          | bk => exact h3
          | rt d => exact h3
end

/-! ### comprehensions -/
/-- in a block no exception is let out -/
abbrev Pm.nx (P : Pm) : Pm := ⟨P.B, P.F0, fun _ _ _ _ => False, P.E⟩
theorem Rep.nx {K : PySem.W.Frag} {P : Pm} {ρ : Evn} {F H : Hp} {σ : Sg} (r : Rep K P ρ F σ H) : Rep K P.nx ρ F σ H := ⟨r.len, r.ext, r.slot, r.sep⟩
def wipeE (ρ : Evn) : List Nat → Evn
  | [] => ρ
  | v :: vs => (wipeE ρ vs).set v none
theorem Rep.wipe {K : PySem.W.Frag} {P : Pm} {ρ : Evn} {F H : Hp} {σ : Sg} (r : Rep K P ρ F σ H) : ∀ vs : List Nat, Rep K P (wipeE ρ vs) F (L2.wipe σ vs) H
  | [] => r
  | v :: vs => (Rep.wipe r vs).setNone
/-- a fresh list: it stands beside the still part -/
def OutF (X : Cx) (P : Pm) (σ : Sg) (Q : VK) (F H : Hp) (r : RE (List PyData)) : Prop :=
  r.post (fun ds => ∀ p xs H' F', Ext F H F' H' → H p = none → F' p = none → H' p = some (.lst xs) → xs.length ≤ sizeLine → VdAll X.K F' xs ds → Q (.ref p) H') (fun c _ => ∀ C H' F', X.mg c = some (.ref C) → Ext F H F' H' → P.W (.ref C) none σ H')
def tFV (X : Cx) (P : Pm) (f : Evn → RE (List PyData)) : TE := fun σ H Q => ∃ ρ F, Rep X.K P ρ F σ H ∧ OutF X P σ Q F H (f ρ)
def VF (X : Cx) (P : Pm) (e : Expr) (f : Evn → RE (List PyData)) : Prop := PE X e (tFV X P f)
def mL (f : Evn → RE (List PyData)) (ρ : Evn) : RE PyData := (f ρ).bind fun ds => .ok (.list ds)
theorem VF.v {X : Cx} {P : Pm} {e : Expr} {f : Evn → RE (List PyData)} (h : VF X P e f) : VE X P e (mL f) := PE_mono h fun σ H Q h => by
  obtain ⟨ρ, F, hR, h⟩ := h
  refine ⟨ρ, F, hR, ?_⟩
  refine R.post_mono (R.post_bind h) (fun ds q p xs H' F' ex n nf h1 hz hv => ?_) (fun c _ q => q)
  exact q _ H' (upd F' p (.lst xs)) (Ext.still ex h1 n nf) (.lst (SqL.of upd_same) hz (VdAll.mono (same_upd nf) ds xs hv))
def nox {α : Type} : RE α → RE α
  | .exc _ _ => .bad
  | x => x
theorem nox_ok {α : Type} {x : RE α} {Q : α → Prop} {E : Str → Unit → Prop} (h : (nox x).post Q E) : ∃ a, x = .ok a ∧ Q a := by
  cases x with
  | ok a => exact ⟨a, rfl, h⟩
  | exc c e => exact h.elim
  | bad => exact h.elim
def lcM (m : PyData → Evn → Option Evn) (t : Evn → RE Bool) (e : Evn → RE PyData) (ρ : Evn) : List PyData → RE (List PyData)
  | [] => .ok []
  | d :: r => (ofO (m d ρ)).bind fun ρ1 => (nox (t ρ1)).bind fun b => if b then (nox (e ρ1)).bind fun x => (lcM m t e ρ r).bind fun xs => .ok (x :: xs) else lcM m t e ρ r
/-- .. with what is made so far -/
def lcA (m : PyData → Evn → Option Evn) (t : Evn → RE Bool) (e : Evn → RE PyData) (ρ : Evn) : List PyData → List PyData → RE (List PyData)
  | [], acc => .ok acc
  | d :: r, acc => (ofO (m d ρ)).bind fun ρ1 => (nox (t ρ1)).bind fun b => if b then (nox (e ρ1)).bind fun x => lcA m t e ρ r (acc ++ [x]) else lcA m t e ρ r acc
theorem bind_assoc {ε α β γ : Type} (x : R ε α) (f : α → R ε β) (g : β → R ε γ) : (x.bind f).bind g = x.bind fun a => (f a).bind g := by cases x <;> rfl
theorem lcA_eq (m : PyData → Evn → Option Evn) (t : Evn → RE Bool) (e : Evn → RE PyData) (ρ : Evn) : ∀ (ds acc : List PyData), lcA m t e ρ ds acc = (lcM m t e ρ ds).bind fun xs => .ok (acc ++ xs)
  | [], acc => by simp [lcA, lcM, R.bind]
  | d :: r, acc => by
    unfold lcA lcM
    rw [bind_assoc]
    congr 1
    funext ρ1
    rw [bind_assoc]
    congr 1
    funext b
    cases b with
    | true =>
      simp only [if_true]
      rw [bind_assoc]
      congr 1
      funext x
      rw [lcA_eq m t e ρ r, bind_assoc]
      congr 1
      funext xs
      simp [R.bind]
    | false => simp only [Bool.false_eq_true, if_false]; exact lcA_eq m t e ρ r acc
/-- a list comprehension: vs the block's own names -/
def mLc (g : Evn → RE (List PyData)) (m : PyData → Evn → Option Evn) (t : Evn → RE Bool) (e : Evn → RE PyData) (vs : List Nat) (ρ : Evn) : RE (List PyData) := (g ρ).bind fun ds => if ds.length ≤ sizeLine then lcM m t e (wipeE ρ vs) ds else .bad
def mYes (_ : Evn) : RE Bool := .ok true
theorem wipe_idem {σ : Sg} {vs : List Nat} : L2.wipe (L2.wipe σ vs) vs = L2.wipe σ vs := by
  have key : ∀ ws : List Nat, (∀ i ∈ ws, i ∈ vs) → L2.wipe (L2.wipe σ ws) vs = L2.wipe σ vs := fun ws => by
    induction ws with
    | nil => intro _; rfl
    | cons w ws ih =>
      intro h
      show L2.wipe ((L2.wipe σ ws).set w none) vs = _
      rw [wipe_set (h w List.mem_cons_self)]
      exact ih fun i hi => h i (List.mem_cons_of_mem _ hi)
  exact key vs fun _ h => h
def VTs (X : Cx) (P : Pm) (ifs : List Expr) (f : Evn → RE Bool) : Prop := PTs X ifs (tTV X P f)
theorem PTs_mono {X : Cx} {e : List Expr} {t t' : TT} (h : PTs X e t) (m : ∀ σ H Q, t' σ H Q → t σ H Q) : PTs X e t' := ⟨fun pins s σ H Q I q => h.run pins s σ H Q I (m σ H Q q)⟩
section
variable {X : Cx} {P : Pm} {pos : Pos} {elt tg iter : Expr} {ifs : List Expr} {scope : Scope} {own : List (Str × Nat)} {g : Evn → RE (List PyData)} {m : PyData → Evn → Option Evn} {t : Evn → RE Bool} {fe : Evn → RE PyData} {js : List Nat}
theorem vts_nil : VTs X P [] mYes := PTs_mono pts_nil fun σ H Q h => by
  obtain ⟨ρ, F, hR, h⟩ := h
  exact h H F (Ext.refl hR.fh)
theorem vts_one {c : Expr} (h : VT X P c t) : VTs X P [c] t := pts_one h
theorem wipeE_some {ρ : Evn} {i : Nat} {c : Cel} : ∀ {vs : List Nat}, (wipeE ρ vs)[i]? = some (some c) → ρ[i]? = some (some c) ∧ i ∉ vs
  | [], h => ⟨h, by simp⟩
  | v :: vs, h => by
    unfold wipeE at h
    by_cases hi : v = i
    · subst hi
      have hl : v < (wipeE ρ vs).length := by
        have := (List.getElem?_eq_some_iff.mp h).1
        rwa [List.length_set] at this
      rw [List.getElem?_set_self hl] at h
      cases h
    · rw [List.getElem?_set_ne hi] at h
      obtain ⟨h1, h2⟩ := wipeE_some h
      exact ⟨h1, by simp only [List.mem_cons, not_or]; exact ⟨fun e => hi e.symm, h2⟩⟩
theorem Rep.other {K : PySem.W.Frag} {P : Pm} {ρ : Evn} {F H : Hp} {σ : Sg} {D : Addr} {o : HO} (r : Rep K P ρ F σ H) (hb : P.B D = none) (hf : F D = none) (no : ∀ (i : Nat) (ds : List PyData), ρ[i]? = some (some (.own ds)) → σ[i]? ≠ some (some (.ref D))) : Rep K P ρ F σ (upd H D o) := by
  have sm : ∀ {G : Hp}, G D = none → Same G H → Same G (upd H D o) := fun {G} n s b u e => by
    rw [upd_ne (ne_of_none e n)]; exact s b u e
  refine ⟨r.len, ⟨sm hb r.ext.hh, r.ext.ff, sm hf r.ext.fh, r.ext.nw⟩, fun i c q => ?_, r.sep⟩
  obtain ⟨v, h1, h2⟩ := r.slot i c q
  refine ⟨v, h1, ?_⟩
  cases c with
  | val d => exact h2
  | exn c => exact h2
  | own ds =>
    obtain ⟨a, xs, ev, b1, b2, b3, b4, b5⟩ := h2
    subst ev
    refine ⟨a, xs, rfl, b1, b2, ?_, b4, b5⟩
    rw [upd_ne]
    · exact b3
    · intro e
      subst e
      exact no i ds q h1
/-- the reading of a comprehension: the new list at D stands beside the still part -/
theorem rdLc {σ : Sg} {H : Hp} {Q : VK} {vs : List Nat} (hjs : ∀ i ∈ js, i ∈ vs) (h : tFV X P (mLc g m t fe vs) σ H Q) : tLc (tIV X P g) (tG X P.nx m js) (tTV X P.nx t) (tV X P.nx fe) vs σ H Q := by
  obtain ⟨ρ, F, hR, h⟩ := h
  refine ⟨ρ, F, hR, ?_⟩
  refine R.post_mono (R.post_bind h) (fun ds q J H0 F0 ex wk => ?_) (fun c _ q => q)
  by_cases hz : ds.length ≤ sizeLine
  case neg => rw [if_neg hz] at q; exact q.elim
  rw [if_pos hz] at q
  intro D hD
  have f0 : F0 D = none := (hR.step ex).fh.free hD
  have R0 := ((hR.step ex).step (Ext.beside (o := .lst []) (hR.step ex).fh hD)).nx.wipe vs
  have hHD : H D = none := ex.hh.free hD
  have hBD : P.B D = none := hR.ext.hh.free hHD
  have noD : ∀ (i : Nat) (ds : List PyData), (wipeE ρ vs)[i]? = some (some (.own ds)) → (L2.wipe σ vs)[i]? ≠ some (some (.ref D)) := fun i ds e1 e2 => by
    obtain ⟨e3, _⟩ := wipeE_some e1
    obtain ⟨e4, _⟩ := L2.wipe_some e2
    obtain ⟨v, e5, a, xs, e6, _, _, e7, _⟩ := hR.slot i _ e3
    rw [e4] at e5
    cases e5
    cases e6
    rw [hHD] at e7
    cases e7
  -- what is left gives the answer
  let Go : Nat → Hp → Prop := fun i H1 => ∃ acc xs F1, Same F0 F1 ∧ Ext F H F1 H1 ∧ F1 D = none ∧ H1 D = some (.lst xs) ∧ xs.length ≤ i ∧ VdAll X.K F1 xs acc ∧ Rep X.K P.nx (wipeE ρ vs) F1 (L2.wipe σ vs) H1 ∧
    (lcA m t fe (wipeE ρ vs) (ds.drop i) acc).post (fun ys => ∀ p xs H' F', Ext F H F' H' → H p = none → F' p = none → H' p = some (.lst xs) → xs.length ≤ sizeLine → VdAll X.K F' xs ys → Q (.ref p) H') (fun _ _ => True)
  refine ⟨fun i k H1 => k = ds.length - i ∧ i ≤ ds.length ∧ Go i H1, ⟨ds.length, by simp, Nat.zero_le _, [], [], F0, Same.refl _, ex.trans (Ext.beside (hR.step ex).fh hD), f0, upd_same, Nat.zero_le _, .nil, R0, ?_⟩, ?_⟩
  · rw [List.drop_zero, lcA_eq]
    cases q2 : lcM m t fe (wipeE ρ vs) ds with
    | ok ys => rw [q2] at q; exact q
    | exc c u => trivial
    | bad => rw [q2] at q; exact q.elim
  rintro i k H1 ⟨rfl, hi, acc, xs, F1, s1, e1, d1, hd1, hl1, ha1, R1, p1⟩
  have sf1 : Same F1 H1 := e1.fh
  by_cases hlt : i < ds.length
  · right
    refine ⟨wk.go i F1 H1 s1 sf1 hlt, Go (i + 1), fun H' n => ⟨ds.length - (i + 1), by omega, rfl, hlt, n⟩, fun x H2 y => ?_⟩
    obtain ⟨F2, e2, hv⟩ := wk.yld i _ F1 H1 x H2 s1 sf1 (List.getElem?_eq_getElem hlt) y
    rw [List.drop_eq_getElem_cons hlt] at p1
    have R2 := R1.step e2
    have nD : ∀ {F' H' : Hp}, Ext F1 H1 F' H' → F' D = none := fun {F' H'} e => by
      cases q3 : F' D with
      | none => rfl
      | some o =>
        rcases e.nw D o q3 with z | z
        · rw [d1] at z; cases z
        · rw [hd1] at z; cases z
    unfold lcA at p1
    cases q2 : m ds[i] (wipeE ρ vs) with
    | none => rw [q2] at p1; exact p1.elim
    | some ρ2 =>
      rw [q2] at p1
      refine ⟨wipeE ρ vs, F2, _, ρ2, R2, hv, q2, fun σ2 R3 b => ⟨(b vs hjs).trans wipe_idem, ?_⟩⟩
      refine ⟨ρ2, F2, R3, ?_⟩
      have p2 := R.post_bind (x := nox (t ρ2)) (f := fun b => if b = true then (nox (fe ρ2)).bind fun x => lcA m t fe (wipeE ρ vs) (ds.drop (i + 1)) (acc ++ [x]) else lcA m t fe (wipeE ρ vs) (ds.drop (i + 1)) acc) p1
      obtain ⟨b, q4, p3⟩ := nox_ok p2
      rw [q4]
      intro H3 F3 e3
      have e13 := e2.trans e3
      cases b with
      | false =>
        rw [if_neg (by decide)]
        rw [if_neg (by decide)] at p3
        exact ⟨acc, xs, F3, s1.trans e13.ff, e1.trans e13, nD e13, e13.hh D _ hd1, by omega, VdAll.mono e13.ff _ _ ha1, R1.step e13, p3⟩
      | true =>
        rw [if_pos rfl]
        rw [if_pos rfl] at p3
        obtain ⟨d, q5, p4⟩ := nox_ok (R.post_bind p3)
        refine ⟨ρ2, F3, R3.step e3, ?_⟩
        rw [q5]
        intro v H4 F4 e4 hv4
        have e14 := e13.trans e4
        have f4 : F4 D = none := nD e14
        have e := e1.trans e14
        have s4 : ∀ {G : Hp}, G D = none → Same G H4 → Same G (upd H4 D (.lst (xs ++ [v]))) := fun {G} n s b u e => by
          rw [upd_ne (ne_of_none e n)]; exact s b u e
        exact ⟨xs, e14.hh D _ hd1, by omega, acc ++ [d], xs ++ [v], F4, s1.trans e14.ff, ⟨s4 hHD e.hh, e.ff, s4 f4 e.fh, e.nw⟩, f4, upd_same, by rw [List.length_append]; show _ + 1 ≤ _; omega, (VdAll.mono e14.ff _ _ ha1).append (.cons hv4 .nil), (R1.step e14).other hBD f4 noD, p4⟩
  · left
    have e : ds.drop i = [] := List.drop_eq_nil_of_le (by omega)
    rw [e] at p1
    exact ⟨wk.stop i F1 H1 s1 sf1 (by omega), p1 D xs H1 F1 e1 hHD d1 hd1 (by omega) ha1⟩
theorem vf_lc {vs : List Nat} (hc : X.calm = true) (hN : X.N.Nodup) (hi : VI X P tg iter g) (ok : BlkOk X.N X.env.scope scope own)
    (hg : ∀ (s : Shared) (H : Hp) (C : Addr) (cl : List (Str × Addr)) (fp : List Addr), VG (X.blk s H scope (compEnvC scope cl C X.env) fp) P.nx tg m js) (ht : ∀ (s : Shared) (H : Hp) (C : Addr) (cl : List (Str × Addr)) (fp : List Addr), VTs (X.blk s H scope (compEnvC scope cl C X.env) fp) P.nx ifs t)
    (he : ∀ (s : Shared) (H : Hp) (C : Addr) (cl : List (Str × Addr)) (fp : List Addr), VE (X.blk s H scope (compEnvC scope cl C X.env) fp) P.nx elt fe) (hvs : own.map (·.2) = vs := by rfl) (hjs : ∀ i ∈ js, i ∈ vs := by decide) (hs : ∀ x, foldedSetIterable iter X.env x = pure x := by intro _; rfl) :
    VF X P (.ListComp elt [⟨tg, iter, ifs, 0⟩] scope pos) (mLc g m t fe vs) := PE_mono (pe_lc (g := tG X P.nx m js) (tt := tTV X P.nx t) (te := tV X P.nx fe) hc hN hi ok hg ht he hs) fun σ H Q h => by subst hvs; exact rdLc hjs h
/-- name = [..] on one line, the name a plain local: the answer is still -/
def sSetL (i : Nat) (f : Evn → RE (List PyData)) (ρ : Evn) : RS := ((f ρ).at ρ).bind fun ds => .ok (.nx, ρ.set i (some (.val (.list ds))))
/-- .. the name's own -/
def sSetO (i : Nat) (f : Evn → RE (List PyData)) (ρ : Evn) : RS := ((f ρ).at ρ).bind fun ds => .ok (.nx, ρ.set i (some (.own ds)))
theorem OutS.firstF {D : Ends} {ρ : Evn} {F H : Hp} {σ : Sg} {fa : Evn → RE (List PyData)} {k : List PyData → RS} {Q' : VK} (hR : Rep X.K P ρ F σ H) (h : OutS X P D F (((fa ρ).at ρ).bind k))
    (hq : ∀ ds p xs F1 H1, Ext F H F1 H1 → H p = none → F1 p = none → H1 p = some (.lst xs) → xs.length ≤ sizeLine → VdAll X.K F1 xs ds → Rep X.K P ρ F1 σ H1 → OutS X P D F1 (k ds) → Q' (.ref p) H1) : tFV X P fa σ H Q' := by
  refine ⟨ρ, F, hR, ?_⟩
  cases q : fa ρ with
  | ok d => rw [q] at h; exact fun p xs H' F' ex n f h1 hz hv => hq d p xs F' H' ex n f h1 hz hv (hR.step ex) (OutS.step h ex.ff)
  | exc c u => rw [q] at h; exact fun C H' F' hm ex => h C σ H' F' hm ex.ff (hR.step ex)
  | bad => rw [q] at h; exact h.elim
theorem rdSetO {i : Nat} {f : Evn → RE (List PyData)} {D : Ends} {σ : Sg} {H : Hp} (h : tS X P (sSetO i f) D σ H) : tAsg (tFV X P f) (gName i) D σ H := by
  obtain ⟨ρ, F, hR, h⟩ := h
  refine OutS.firstF hR h fun ds p xs F1 H1 ex n f h1 hz hv R1 k => ?_
  refine k _ H1 F1 (Same.refl _) (R1.setOwn (hR.ext.hh.free n) f h1 hz hv fun j es _ q1 q2 => ?_)
  obtain ⟨v, e1, a, ys, e2, _, _, e3, _⟩ := hR.slot j _ q1
  rw [q2] at e1
  cases e1
  cases e2
  rw [n] at e3
  cases e3
theorem rdSetL {i : Nat} {f : Evn → RE (List PyData)} {D : Ends} {σ : Sg} {H : Hp} (h : tS X P (sSetL i f) D σ H) : tAsg (tFV X P f) (gName i) D σ H := by
  obtain ⟨ρ, F, hR, h⟩ := h
  refine OutS.firstF hR h fun ds p xs F1 H1 ex n f h1 hz hv R1 k => ?_
  have e2 := Ext.still ex h1 n f
  exact k _ H1 _ (same_upd f) ((hR.step e2).setVal (.lst (SqL.of upd_same) hz (VdAll.mono (same_upd f) ds xs hv)))
theorem vs_setO (i : Nat) {x : Str} {pos' : Pos} {e : Expr} {f : Evn → RE (List PyData)} (hN : X.N.Nodup) (he : VF X P e f) (hi : X.N[i]? = some x := by rfl) (hx : Loc X.env.scope x := by first | exact Or.inl rfl | exact Or.inr rfl) (hs : swapsWith e (some (.Name x pos')) pos.line X.env = pure false := by rfl)
    (hf : X.fn x = true ∨ X.env.scope.names.lookup x = some .local := by first | exact .inl rfl | exact .inr rfl) : VS X P (.Assign [.Name x pos'] e pos) (sSetO i f) := PS_mono (ps_set hN hi hx he hs hf) fun D σ H h => rdSetO h
theorem vs_lcO (i : Nat) {y : Str} {py spos : Pos} {vs : List Nat} (hc : X.calm = true) (hN : X.N.Nodup) (hi : VI X P tg iter g) (ok : BlkOk X.N X.env.scope scope own)
    (hg : ∀ (s : Shared) (H : Hp) (C : Addr) (cl : List (Str × Addr)) (fp : List Addr), VG (X.blk s H scope (compEnvC scope cl C X.env) fp) P.nx tg m js) (ht : ∀ (s : Shared) (H : Hp) (C : Addr) (cl : List (Str × Addr)) (fp : List Addr), VTs (X.blk s H scope (compEnvC scope cl C X.env) fp) P.nx ifs t)
    (he : ∀ (s : Shared) (H : Hp) (C : Addr) (cl : List (Str × Addr)) (fp : List Addr), VE (X.blk s H scope (compEnvC scope cl C X.env) fp) P.nx elt fe) (hsw : swapsWith (.ListComp elt [⟨tg, iter, ifs, 0⟩] scope pos) (some (.Name y py)) spos.line X.env = pure true := by exact sw_true rfl rfl rfl (by decide +kernel)) (hvs : own.map (·.2) = vs := by rfl) (hjs : ∀ i ∈ js, i ∈ vs := by decide) (hy : X.N[i]? = some y := by rfl) (hyl : X.env.scope.names.lookup y = some .local := by rfl)
    (hs : ∀ x, foldedSetIterable iter X.env x = pure x := by intro _; rfl) :
    VS X P (.Assign [.Name y py] (.ListComp elt [⟨tg, iter, ifs, 0⟩] scope pos) spos) (sSetO i (mLc g m t fe vs)) := PS_mono (ps_setLc (g := tG X P.nx m js) (tt := tTV X P.nx t) (te := tV X P.nx fe) hc hN hy hyl hsw hi ok hg ht he hs) fun D σ H h => by
  subst hvs
  have h2 := rdSetO h
  exact rdLc hjs h2
theorem vs_lcL (i : Nat) {y : Str} {py spos : Pos} {vs : List Nat} (hc : X.calm = true) (hN : X.N.Nodup) (hi : VI X P tg iter g) (ok : BlkOk X.N X.env.scope scope own)
    (hg : ∀ (s : Shared) (H : Hp) (C : Addr) (cl : List (Str × Addr)) (fp : List Addr), VG (X.blk s H scope (compEnvC scope cl C X.env) fp) P.nx tg m js) (ht : ∀ (s : Shared) (H : Hp) (C : Addr) (cl : List (Str × Addr)) (fp : List Addr), VTs (X.blk s H scope (compEnvC scope cl C X.env) fp) P.nx ifs t)
    (he : ∀ (s : Shared) (H : Hp) (C : Addr) (cl : List (Str × Addr)) (fp : List Addr), VE (X.blk s H scope (compEnvC scope cl C X.env) fp) P.nx elt fe) (hsw : swapsWith (.ListComp elt [⟨tg, iter, ifs, 0⟩] scope pos) (some (.Name y py)) spos.line X.env = pure true := by exact sw_true rfl rfl rfl (by decide +kernel)) (hvs : own.map (·.2) = vs := by rfl) (hjs : ∀ i ∈ js, i ∈ vs := by decide) (hy : X.N[i]? = some y := by rfl) (hyl : X.env.scope.names.lookup y = some .local := by rfl)
    (hs : ∀ x, foldedSetIterable iter X.env x = pure x := by intro _; rfl) :
    VS X P (.Assign [.Name y py] (.ListComp elt [⟨tg, iter, ifs, 0⟩] scope pos) spos) (sSetL i (mLc g m t fe vs)) := PS_mono (ps_setLc (g := tG X P.nx m js) (tt := tTV X P.nx t) (te := tV X P.nx fe) hc hN hy hyl hsw hi ok hg ht he hs) fun D σ H h => by
  subst hvs
  have h2 := rdSetL h
  exact rdLc hjs h2
end
end PV
end
section
set_option Elab.async false
set_option linter.all false
set_option maxRecDepth 100000
set_option maxHeartbeats 4000000
namespace PV
open PySem PySem.Spec PyProof.Rows L2

/-! ### a name's own list is changed -/
theorem Rep.own {K : PySem.W.Frag} {P : Pm} {ρ : Evn} {F H : Hp} {σ : Sg} {i : Nat} {ds : List PyData} (r : Rep K P ρ F σ H) (q : ρ[i]? = some (some (.own ds))) : ∃ a xs, σ[i]? = some (some (.ref a)) ∧ P.B a = none ∧ F a = none ∧ H a = some (.lst xs) ∧ xs.length ≤ sizeLine ∧ VdAll K F xs ds := by
  obtain ⟨v, h1, a, xs, e, h⟩ := r.slot i _ q
  subst e
  exact ⟨a, xs, h1, h⟩
theorem Rep.mutate {K : PySem.W.Frag} {P : Pm} {ρ : Evn} {F H : Hp} {σ : Sg} {i : Nat} {ds ds' : List PyData} {a : Addr} {xs : List V} (r : Rep K P ρ F σ H) (q : ρ[i]? = some (some (.own ds))) (hσ : σ[i]? = some (some (.ref a))) (hb : P.B a = none) (hf : F a = none)
    (hz : xs.length ≤ sizeLine) (hv : VdAll K F xs ds') : Rep K P (ρ.set i (some (.own ds'))) F σ (upd H a (.lst xs)) := by
  have sm : ∀ {G : Hp}, G a = none → Same G H → Same G (upd H a (.lst xs)) := fun {G} n s b u e => by
    rw [upd_ne (ne_of_none e n)]; exact s b u e
  have hi : i < ρ.length := (List.getElem?_eq_some_iff.mp q).1
  have nj : ∀ {j : Nat} {c : Cel}, (ρ.set i (some (.own ds')))[j]? = some (some c) → (i = j ∧ c = .own ds') ∨ (i ≠ j ∧ ρ[j]? = some (some c)) := fun {j c} q => by
    by_cases hj : i = j
    · subst hj
      rw [List.getElem?_set_self hi] at q
      cases q
      exact .inl ⟨rfl, rfl⟩
    · rw [List.getElem?_set_ne hj] at q
      exact .inr ⟨hj, q⟩
  refine ⟨by rw [List.length_set]; exact r.len, ⟨sm hb r.ext.hh, r.ext.ff, sm hf r.ext.fh, r.ext.nw⟩, fun j c p => ?_, fun j k b es es' hne q1 q2 q3 => ?_⟩
  · rcases nj p with ⟨e, ec⟩ | ⟨n, p⟩
    · subst e; subst ec
      exact ⟨_, hσ, a, xs, rfl, hb, hf, upd_same, hz, hv⟩
    · obtain ⟨u, h1, h2⟩ := r.slot j c p
      refine ⟨u, h1, ?_⟩
      cases c with
      | val d => exact h2
      | exn c => exact h2
      | own es =>
        obtain ⟨a', xs', ev, b1, b2, b3, b4, b5⟩ := h2
        subst ev
        refine ⟨a', xs', rfl, b1, b2, ?_, b4, b5⟩
        rw [upd_ne]
        · exact b3
        · intro e
          subst e
          exact r.sep i j _ ds es n q p hσ h1
  · rcases nj q1 with ⟨e, ec⟩ | ⟨n1, p1⟩
    · subst e
      rcases nj q2 with ⟨e2, _⟩ | ⟨n2, p2⟩
      · exact absurd e2 hne
      · exact r.sep i k b ds es' hne q p2 q3
    · rcases nj q2 with ⟨e2, _⟩ | ⟨n2, p2⟩
      · subst e2
        exact r.sep j i b es ds hne p1 q q3
      · exact r.sep j k b es es' hne p1 p2 q3
/-- the own list at i -/
def ownAt (i : Nat) (ρ : Evn) : Option (List PyData) := match ρ[i]? with
  | some (some (.own ds)) => some ds
  | _ => none
theorem ownAt_eq {i : Nat} {ρ : Evn} {ds : List PyData} (h : ownAt i ρ = some ds) : ρ[i]? = some (some (.own ds)) := by
  unfold ownAt at h
  split at h
  · cases h; assumption
  · cases h
/-- x.append(e) -/
def sApp (i : Nat) (f : Evn → RE PyData) (ρ : Evn) : RS := match ownAt i ρ with
  | some ds => ((f ρ).at ρ).bind fun d => if ds.length < sizeLine then .ok (.nx, ρ.set i (some (.own (ds ++ [d])))) else .bad
  | none => .bad
section
variable {X : Cx} {P : Pm} {pos apos spos tpos : Pos} {e k : Expr} {fe fk : Evn → RE PyData} {x : Str}
theorem rdOwn {i : Nat} {ρ : Evn} {F H : Hp} {σ : Sg} {D : Ends} {k : List PyData → RS} (hR : Rep X.K P ρ F σ H) (h : OutS X P D F (match ownAt i ρ with | some ds => k ds | none => .bad)) :
    ∃ a xs ds, ρ[i]? = some (some (.own ds)) ∧ σ[i]? = some (some (.ref a)) ∧ P.B a = none ∧ F a = none ∧ H a = some (.lst xs) ∧ xs.length ≤ sizeLine ∧ VdAll X.K F xs ds ∧ OutS X P D F (k ds) := by
  cases q : ownAt i ρ with
  | none => rw [q] at h; exact h.elim
  | some ds =>
    rw [q] at h
    obtain ⟨a, xs, h1, h2, h3, h4, h5, h6⟩ := hR.own (ownAt_eq q)
    exact ⟨a, xs, ds, ownAt_eq q, h1, h2, h3, h4, h5, h6, h⟩
theorem Rep.own_at {i : Nat} {ρ : Evn} {F H : Hp} {σ : Sg} {ds : List PyData} {a : Addr} (r : Rep X.K P ρ F σ H) (q : ρ[i]? = some (some (.own ds))) (hσ : σ[i]? = some (some (.ref a))) : ∃ xs, F a = none ∧ H a = some (.lst xs) ∧ xs.length ≤ sizeLine ∧ VdAll X.K F xs ds := by
  obtain ⟨a', xs, g1, g2, g3, g4, g5, g6⟩ := r.own q
  rw [hσ] at g1
  cases g1
  exact ⟨xs, g3, g4, g5, g6⟩
theorem vs_append (i : Nat) {p : Pos} (he : VE X P e fe) (hN : X.N[i]? = some x := by rfl) (hv : Vis X.env.scope x := by first | exact Or.inl rfl | exact Or.inr (Or.inl rfl) | exact Or.inr (Or.inr rfl)) (hd : (x == ("__debug__" : Str)) = false := by decide) (hcd : (x == ("__classdict__" : Str)) = false := by decide)
    (hbase : attributeBase (.Name x p) "append" X.env (eval (.Name x p) X.env) = eval (.Name x p) X.env := by rfl)
    (hfew : ((backTo pos (starEach [e] X.env)).all (fun x => !x.1) && (backToKw pos (keywordEach [] X.env)).all (fun x => x.1.isSome)
      && decide ([e].length + ([] : List Keyword).length + (if ([] : List Keyword).isEmpty then 0 else 1) < 30)) = true := by rfl)
    (hline : (apos.endLine == pos.line) = true := by rfl) (hs : starEach [e] X.env = (false, eval e X.env) :: starEach [] X.env := by rfl) (hplain : (backTo pos (starEach [] X.env)).any (·.1) = false := by rfl) (hsw : swapsWith (.Call (.Attribute (.Name x p) "append" apos) [e] [] pos) none spos.line X.env = pure false := by rfl) :
    VS X P (.Expr (.Call (.Attribute (.Name x p) "append" apos) [e] [] pos) spos) (sApp i fe) :=
  PS_mono (ps_expr (pe_bm PySem.F.plainAttrs_list PySem.F.slot_list_append PySem.F.type_list_append mt_append (pe_var (i := i) hN hv hd hcd) (pa_cons he pa_nil hs) hbase hfew hline hs hplain) hsw) fun D σ H h => by
    obtain ⟨ρ, F, hR, h⟩ := h
    obtain ⟨a, xs, ds, q, h1, h2, h3, h4, h5, h6, h⟩ := rdOwn hR h
    refine ⟨_, h1, .inl ⟨rfl, _, SqL.of h4⟩, ?_⟩
    refine OutS.first hR h fun d v F1 H1 e1 hv R1 k => ?_
    obtain ⟨xs', g3, g4, g5, g6⟩ := R1.own_at q h1
    have hl := g6.length
    by_cases hz : ds.length < sizeLine
    · rw [if_pos hz] at k
      exact ⟨_, _, _, rfl, rfl, g4, by omega, k σ _ F1 (Same.refl _) (R1.mutate q h1 h2 g3 (by rw [List.length_append]; show _ + 1 ≤ _; omega) (g6.append (.cons hv .nil)))⟩
    · rw [if_neg hz] at k
      exact k.elim
/-- x[k] = e -/
def setD (ds : List PyData) (k d : PyData) : Option (List PyData) := match k with
  | .int j => (ixN ds.length j).map fun n => ds.set n d
  | _ => none
def sSetIx (i : Nat) (fk fe : Evn → RE PyData) (ρ : Evn) : RS := match ownAt i ρ with
  | some ds => ((fe ρ).at ρ).bind fun d => ((fk ρ).at ρ).bind fun k => (oS (setD ds k d)).bind fun es => .ok (.nx, ρ.set i (some (.own es)))
  | none => .bad
theorem setD_of {K : PySem.W.Frag} {F : Hp} {xs : List V} {ds es : List PyData} {kv v : V} {k d : PyData} (hx : VdAll K F xs ds) (hk : Vd K F kv k) (hv : Vd K F v d) (e : setD ds k d = some es) : ∃ j n, kv = .int j ∧ ixN xs.length j = some n ∧ VdAll K F (xs.set n v) es := by
  cases hk with
  | int j =>
    cases q : ixN ds.length j with
    | none => simp [setD, q] at e
    | some n =>
      simp only [setD, q, Option.map_some, Option.some.injEq] at e
      subst e
      exact ⟨j, n, rfl, by rw [hx.length]; exact q, hx.set hv n⟩
  | _ => cases e
theorem vs_setIx (i : Nat) {p : Pos} (hk : VE X P k fk) (he : VE X P e fe) (hN : X.N[i]? = some x := by rfl) (hv : Vis X.env.scope x := by first | exact Or.inl rfl | exact Or.inr (Or.inl rfl) | exact Or.inr (Or.inr rfl)) (hd : (x == ("__debug__" : Str)) = false := by decide) (hcd : (x == ("__classdict__" : Str)) = false := by decide)
    (ha : ∀ v, assign (.Subscript (.Name x p) k tpos) X.env v = (do
      let ov ← holding [v] (eval (.Name x p) X.env)
      let iv ← holding [v, ov] (eval k X.env)
      standAt tpos
      holding [v, ov, iv] (setItem ov iv v)
      release [v, ov, iv] []) := by intro _; rfl)
    (hs : swapsWithSole [.Subscript (.Name x p) k tpos] e spos.line X.env = pure false := by rfl) (hw : swappedStores [.Subscript (.Name x p) k tpos] e X.env = pure none := by rfl)
    (h1 : (assignEach [.Subscript (.Name x p) k tpos] X.env).map (·.2) = [assign (.Subscript (.Name x p) k tpos) X.env] := by rfl) :
    VS X P (.Assign [.Subscript (.Name x p) k tpos] e spos) (sSetIx i fk fe) :=
  PS_mono (ps_asg he (pg_sub (pe_var (i := i) hN hv hd hcd) hk set_list ha) hs hw h1) fun D σ H h => by
    obtain ⟨ρ, F, hR, h⟩ := h
    obtain ⟨a, xs, ds, q, h1, h2, h3, h4, h5, h6, h⟩ := rdOwn hR h
    refine OutS.first hR h fun d v F1 H1 e1 hv R1 h => ?_
    refine ⟨_, h1, ?_⟩
    refine OutS.first R1 h fun kd kv F2 H2 e2 hkv R2 h => ?_
    obtain ⟨xs', g3, g4, g5, g6⟩ := R2.own_at q h1
    cases q2 : setD ds kd d with
    | none => rw [q2] at h; exact h.elim
    | some es =>
      rw [q2] at h
      obtain ⟨j, n, rfl, hn, hes⟩ := setD_of g6 hkv (Vd.mono e2.ff d v hv) q2
      exact ⟨_, _, j, n, rfl, rfl, g4, hn, h σ _ F2 (Same.refl _) (R2.mutate q h1 h2 g3 (by rw [List.length_set]; exact g5) hes)⟩
/-- x[k] += e, ints -/
theorem get_list : PGet X (fun o i H Q => ∃ p xs k v, o = .ref p ∧ i = .int k ∧ SqL X.K H p xs ∧ atI xs k = some v ∧ Q v H) := by
  intro pins s σ H o i ov iv Q I ro ri h
  obtain ⟨p, xs, k, z, rfl, rfl, hq, he, q⟩ := h
  cases ro
  obtain ⟨t, rfl⟩ := ri
  obtain ⟨its, r, pl, hz⟩ := I.list hq
  obtain ⟨j, h1, h2, h3, h4, h5⟩ := atI_get he
  obtain ⟨w, ew, rw'⟩ := r.get h2
  have hl := r.length
  have hn := line63
  have fin : EP X pins σ Q w s := ⟨z, H, I, rw', q⟩
  by_cases h0 : 0 ≤ k
  · have hj : k.toNat = j := by
      rw [seqIndex_of h0 h5] at h1
      exact Option.some.inj h1
    exact wpAny_getItem_list pl.isList h0 (by omega) (by rw [hj]; simpa using ew) fin
  · have hj : (k + (its.toArray.size : Int)).toNat = j := by
      rw [seqIndex_neg (by omega) h4] at h1
      rw [List.size_toArray, ← hl]
      exact Option.some.inj h1
    exact wpAny_getItem_list_neg pl.isList (by omega) (by rw [List.size_toArray] <;> omega) (by omega) (by rw [hj]; simpa using ew) fin
def iOp (f : Int → Int → Int) : PyData → PyData → Option PyData
  | .int i, .int j => some (.int (f i j))
  | _, _ => none
def sAugIx (i : Nat) (fk : Evn → RE PyData) (f : Int → Int → Int) (fe : Evn → RE PyData) (ρ : Evn) : RS := match ownAt i ρ with
  | some ds => ((fk ρ).at ρ).bind fun k => (oS (pIdx (.list ds) k)).bind fun old => ((fe ρ).at ρ).bind fun d => (oS ((iOp f old d).bind (setD ds k))).bind fun es => .ok (.nx, ρ.set i (some (.own es)))
  | none => .bad
theorem vs_augIx (i : Nat) {p : Pos} {op : Operator} {f : Int → Int → Int} (ho : PIp X op (ipI f)) (hk : VE X P k fk) (he : VE X P e fe) (hN : X.N[i]? = some x := by rfl) (hv : Vis X.env.scope x := by first | exact Or.inl rfl | exact Or.inr (Or.inl rfl) | exact Or.inr (Or.inr rfl)) (hd : (x == ("__debug__" : Str)) = false := by decide) (hcd : (x == ("__classdict__" : Str)) = false := by decide)
    (ha : ∀ ov iv new, augStore k ov iv new = (do holding [new, ov, iv] (setItem ov iv new); release [new, ov, iv] []; pure .next) := by intros; rfl) :
    VS X P (.AugAssign (.Subscript (.Name x p) k tpos) op e pos) (sAugIx i fk f fe) :=
  PS_mono (ps_augS (pe_var (i := i) hN hv hd hcd) hk get_list he ho set_list ha) fun D σ H h => by
    obtain ⟨ρ, F, hR, h⟩ := h
    obtain ⟨a, xs, ds, q, h1, h2, h3, h4, h5, h6, h⟩ := rdOwn hR h
    refine ⟨_, h1, ?_⟩
    refine OutS.first hR h fun kd kv F1 H1 e1 hkv R1 h => ?_
    obtain ⟨xs1, g3, g4, g5, g6⟩ := R1.own_at q h1
    cases q1 : pIdx (.list ds) kd with
    | none => rw [q1] at h; exact h.elim
    | some old =>
      rw [q1] at h
      cases hkv with
      | int j =>
        obtain ⟨ov, ho1, ho2⟩ := g6.at (i := j) q1
        refine ⟨a, xs1, j, ov, rfl, rfl, SqL.of g4, ho1, ?_⟩
        refine OutS.first (k := fun d => (oS ((iOp f old d).bind (setD ds (.int j)))).bind fun es => .ok (.nx, ρ.set i (some (.own es)))) R1 h fun d v F2 H2 e2 hv R2 h9 => ?_
        obtain ⟨xs2, k3, k4, k5, k6⟩ := R2.own_at q h1
        cases q2 : iOp f old d with
        | none => rw [q2] at h9; exact h9.elim
        | some z =>
          rw [q2] at h9
          cases q3 : setD ds (.int j) z with
          | none => simp only [Option.bind_some, q3] at h9; exact h9.elim
          | some es =>
            simp only [Option.bind_some, q3] at h9
            have hov := Vd.mono e2.ff old ov ho2
            cases hov with
            | int a1 =>
              cases hv with
              | int b1 =>
                cases q2
                obtain ⟨j', n, e', hn, hes⟩ := setD_of (v := .int (f a1 b1)) k6 (.int j) (.int _) q3
                cases e'
                exact ⟨a1, b1, rfl, rfl, _, _, j, n, rfl, rfl, k4, hn, h9 σ _ F2 (Same.refl _) (R2.mutate q h1 h2 k3 (by rw [List.length_set]; exact k5) hes)⟩
              | _ => cases q2
            | _ => cases q2
      | _ => cases q1
/-- x op= e, x no list -/
def sAug (i : Nat) (g : PyData → PyData → Option PyData) (f : Evn → RE PyData) (ρ : Evn) : RS := match ρ[i]? with
  | some (some (.val d)) => ((f ρ).at ρ).bind fun e => (oS (g d e)).bind fun r => .ok (.nx, ρ.set i (some (.val r)))
  | _ => .bad
theorem vs_aug (i : Nat) {p : Pos} {op : Operator} {g : PyData → PyData → Option PyData} (ho : OpV X (inplaceOp op) g) (hN : X.N.Nodup) (he : VE X P e fe) (hi : X.N[i]? = some x := by rfl) (hx : Loc X.env.scope x := by first | exact Or.inl rfl | exact Or.inr rfl)
    (hf : X.fn x = true ∨ X.env.scope.names.lookup x = some .local := by first | exact .inl rfl | exact .inr rfl) : VS X P (.AugAssign (.Name x p) op e pos) (sAug i g fe) :=
  PS_mono (ps_aug (ti := rV X g) hN hi hx he ho.r hf) fun D σ H h => by
    obtain ⟨ρ, F, hR, h⟩ := h
    unfold sAug at h
    split at h
    · rename_i d q
      obtain ⟨v, h1, h2⟩ := hR.slot i _ q
      refine ⟨v, h1, ?_⟩
      refine OutS.first hR h fun e u F1 H1 e1 hu R1 h => ?_
      cases q2 : g d e with
      | none => rw [q2] at h; exact h.elim
      | some r =>
        rw [q2] at h
        exact ⟨F1, d, e, r, R1.fh, Vd.mono e1.ff d v h2, hu, q2, fun v' H' F' ex hv => h _ H' F' ex.ff ((R1.step ex).setVal hv)⟩
    · exact h.elim
def pIAdd : PyData → PyData → Option PyData
  | .int i, .int j => some (.int (i + j))
  | .str x, .str y => if x.length + y.length ≤ sizeLine then some (.str (x ++ y)) else none
  | _, _ => none
theorem opv_iadd : OpV X (inplaceOp .Add) pIAdd := by
  intro pins s σ H x y v u Q I rx ry F d e r sf hx hy hg hq
  cases hx with
  | int i =>
    cases hy with
    | int j =>
      cases hg
      exact iop_add pins s σ H _ _ v u Q I rx ry ⟨i, j, rfl, rfl, hq _ _ F (Ext.refl sf) (.int _)⟩
    | _ => cases hg
  | str x hx1 =>
    cases hy with
    | str y hy1 =>
      obtain ⟨hp, rfl⟩ := some_of_if hg
      refine iop_add_str pins s σ H _ _ v u Q I rx ry ⟨x, y, rfl, rfl, hp, hq _ _ F (Ext.refl sf) (.str _ ?_)⟩
      show ((x.cps ++ y.cps).all _) = true
      have h1 : x.cps.all (fun c => decide (c < 0x110000)) = true := hx1
      have h2 : y.cps.all (fun c => decide (c < 0x110000)) = true := hy1
      rw [Array.all_append, h1, h2]
      rfl
    | _ => cases hg
  | _ => cases hg
theorem opv_isub : OpV X (inplaceOp .Sub) pSub := opI2 (rI0_of iop_sub) (fun _ _ _ => .int _) fun d e r h => by
  cases d <;> cases e <;> first | exact ⟨_, _, rfl, rfl, trivial, (Option.some.inj h).symm⟩ | cases h
/-! pop -/
def sPop (i : Nat) (ρ : Evn) : RS := match ownAt i ρ with
  | some ds => (oS ds.getLast?).bind fun _ => .ok (.nx, ρ.set i (some (.own ds.dropLast)))
  | none => .bad
def sPopTo (i j : Nat) (ρ : Evn) : RS := match ownAt i ρ with
  | some ds => (oS ds.getLast?).bind fun d => .ok (.nx, (ρ.set i (some (.own ds.dropLast))).set j (some (.val d)))
  | none => .bad
theorem VdAll.dropLast {K : PySem.W.Frag} {F : Hp} {vs : List V} {ds : List PyData} (h : VdAll K F vs ds) : VdAll K F vs.dropLast ds.dropLast := by
  rw [List.dropLast_eq_take, List.dropLast_eq_take, h.length]
  exact h.take _
theorem rdPop {i : Nat} {ρ : Evn} {F H : Hp} {σ : Sg} {ds : List PyData} {a : Addr} {xs : List V} {d : PyData} (h6 : VdAll X.K F xs ds) (hl : ds.getLast? = some d) : ∃ y, xs[xs.length - 1]? = some y ∧ Vd X.K F y d := by
  rw [List.getLast?_eq_getElem?] at hl
  obtain ⟨y, h1, h2⟩ := h6.get hl
  rw [← h6.length] at h1
  exact ⟨y, h1, h2⟩
theorem vs_pop (i : Nat) {p : Pos} (hN : X.N[i]? = some x := by rfl) (hv : Vis X.env.scope x := by first | exact Or.inl rfl | exact Or.inr (Or.inl rfl) | exact Or.inr (Or.inr rfl)) (hd : (x == ("__debug__" : Str)) = false := by decide) (hcd : (x == ("__classdict__" : Str)) = false := by decide)
    (hbase : attributeBase (.Name x p) "pop" X.env (eval (.Name x p) X.env) = eval (.Name x p) X.env := by rfl) (hline : (apos.endLine == pos.line) = true := by rfl) (hsw : swapsWith (.Call (.Attribute (.Name x p) "pop" apos) [] [] pos) none spos.line X.env = pure false := by rfl) :
    VS X P (.Expr (.Call (.Attribute (.Name x p) "pop" apos) [] [] pos) spos) (sPop i) :=
  PS_mono (ps_expr (pe_bm0 PySem.F.plainAttrs_list PySem.F.slot_list_pop PySem.F.type_list_pop mt_pop (pe_var (i := i) hN hv hd hcd) hbase hline) hsw) fun D σ H h => by
    obtain ⟨ρ, F, hR, h⟩ := h
    obtain ⟨a, xs, ds, q, h1, h2, h3, h4, h5, h6, h⟩ := rdOwn hR h
    refine ⟨_, h1, .inl ⟨rfl, _, SqL.of h4⟩, ?_⟩
    cases q2 : ds.getLast? with
    | none => rw [q2] at h; exact h.elim
    | some d =>
      rw [q2] at h
      obtain ⟨y, hy, _⟩ := rdPop (i := i) (ρ := ρ) (H := H) (σ := σ) (a := a) h6 q2
      exact ⟨_, _, y, rfl, rfl, h4, hy, h σ _ F (Same.refl _) (hR.mutate q h1 h2 h3 (by rw [List.length_dropLast]; omega) h6.dropLast)⟩
theorem vs_popTo (i j : Nat) {y : Str} {p py : Pos} (nd : X.N.Nodup) (hN : X.N[i]? = some x := by rfl) (hj : X.N[j]? = some y := by rfl) (hij : i ≠ j := by decide) (hv : Vis X.env.scope x := by first | exact Or.inl rfl | exact Or.inr (Or.inl rfl) | exact Or.inr (Or.inr rfl)) (hd : (x == ("__debug__" : Str)) = false := by decide) (hcd : (x == ("__classdict__" : Str)) = false := by decide)
    (hbase : attributeBase (.Name x p) "pop" X.env (eval (.Name x p) X.env) = eval (.Name x p) X.env := by rfl) (hline : (apos.endLine == pos.line) = true := by rfl) (hy : Loc X.env.scope y := by first | exact Or.inl rfl | exact Or.inr rfl) (hsw : swapsWith (.Call (.Attribute (.Name x p) "pop" apos) [] [] pos) (some (.Name y py)) spos.line X.env = pure false := by rfl) (hf : X.fn y = true ∨ X.env.scope.names.lookup y = some .local := by first | exact .inl rfl | exact .inr rfl) :
    VS X P (.Assign [.Name y py] (.Call (.Attribute (.Name x p) "pop" apos) [] [] pos) spos) (sPopTo i j) :=
  PS_mono (ps_set nd hj hy (pe_bm0 PySem.F.plainAttrs_list PySem.F.slot_list_pop PySem.F.type_list_pop mt_pop (pe_var (i := i) hN hv hd hcd) hbase hline) hsw hf) fun D σ H h => by
    obtain ⟨ρ, F, hR, h⟩ := h
    obtain ⟨a, xs, ds, q, h1, h2, h3, h4, h5, h6, h⟩ := rdOwn hR h
    refine ⟨_, h1, .inl ⟨rfl, _, SqL.of h4⟩, ?_⟩
    cases q2 : ds.getLast? with
    | none => rw [q2] at h; exact h.elim
    | some d =>
      rw [q2] at h
      obtain ⟨y, hy, hyv⟩ := rdPop (i := i) (ρ := ρ) (H := H) (σ := σ) (a := a) h6 q2
      exact ⟨_, _, y, rfl, rfl, h4, hy, h _ _ F (Same.refl _) ((hR.mutate q h1 h2 h3 (by rw [List.length_dropLast]; omega) h6.dropLast).setVal hyv)⟩
end

/-! ### fresh lists -/
section
variable {X : Cx} {P : Pm} {pos p p2 p3 : Pos} {e k a b : Expr} {es : List Expr} {fe fk fa fb : Evn → RE PyData} {g : Evn → RE (List PyData)} {x : Str}
theorem OutF.first {σ : Sg} {F H : Hp} {ρ : Evn} {f : Evn → RE PyData} {k : PyData → RE (List PyData)} {Q Q' : VK} (hR : Rep X.K P ρ F σ H) (h : OutF X P σ Q F H ((f ρ).bind k))
    (hq : ∀ d v F1 H1, Ext F H F1 H1 → Vd X.K F1 v d → Rep X.K P ρ F1 σ H1 → OutF X P σ Q F1 H1 (k d) → Q' v H1) : tV X P f σ H Q' := by
  refine ⟨ρ, F, hR, ?_⟩
  refine R.post_mono (R.post_bind h) (fun d q v H' F' e hv => hq d v F' H' e hv (hR.step e) ?_) (fun c _ q => q)
  exact R.post_mono q (fun ds q p xs H2 F2 e2 n f h1 hz hv => q p xs H2 F2 (e.trans e2) (e.hh.free n) f h1 hz hv) (fun c _ q C H2 F2 hm e2 => q C H2 F2 hm (e.trans e2))
theorem OutF.firstA {σ : Sg} {F H : Hp} {ρ : Evn} {f : Evn → RE (List PyData)} {k : List PyData → RE (List PyData)} {Q : VK} {Q' : List V → Hp → Prop} (hR : Rep X.K P ρ F σ H) (h : OutF X P σ Q F H ((f ρ).bind k))
    (hq : ∀ d v F1 H1, Ext F H F1 H1 → VdAll X.K F1 v d → Rep X.K P ρ F1 σ H1 → OutF X P σ Q F1 H1 (k d) → Q' v H1) : tAV X P f σ H Q' := by
  refine ⟨ρ, F, hR, ?_⟩
  refine R.post_mono (R.post_bind h) (fun d q v H' F' e hv => hq d v F' H' e hv (hR.step e) ?_) (fun c _ q => q)
  exact R.post_mono q (fun ds q p xs H2 F2 e2 n f h1 hz hv => q p xs H2 F2 (e.trans e2) (e.hh.free n) f h1 hz hv) (fun c _ q C H2 F2 hm e2 => q C H2 F2 hm (e.trans e2))
/-- a new list, as a fresh result -/
theorem OutF.new {σ : Sg} {F H : Hp} {Q : VK} {xs : List V} {ds : List PyData} (sf : Same F H) (h : OutF X P σ Q F H (.ok ds)) (hz : xs.length ≤ sizeLine) (hv : VdAll X.K F xs ds) : ∀ p, H p = none → Q (.ref p) (upd H p (.lst xs)) :=
  fun p n => h p xs _ F (Ext.beside sf n) n (sf.free n) upd_same hz hv
def mDsp (g : Evn → RE (List PyData)) (ρ : Evn) : RE (List PyData) := (g ρ).bind fun ds => if ds.length ≤ sizeLine then .ok ds else .bad
theorem vf_lst (h : VA X P es g) : VF X P (.List es pos) (mDsp g) := PE_mono (pe_lst h) fun σ H Q h => by
  obtain ⟨ρ, F, hR, h⟩ := h
  refine OutF.firstA hR h fun ds vs F1 H1 e1 hv R1 h1 => ?_
  have hl := hv.length
  by_cases hz : ds.length ≤ sizeLine
  · rw [if_pos hz] at h1
    exact ⟨by omega, OutF.new R1.fh h1 (by omega) hv⟩
  · rw [if_neg hz] at h1; exact h1.elim
/-- [a, ..] * n -/
def repOk (m : Nat) (k : Int) : Prop := -(2 ^ 63) ≤ k ∧ k < 2 ^ 63 ∧ m * k.toNat ≤ sizeLine
instance (m : Nat) (k : Int) : Decidable (repOk m k) := by unfold repOk; exact inferInstance
def pRep (ds : List PyData) : PyData → RE (List PyData)
  | .int k => if repOk ds.length k then .ok (List.replicate k.toNat ds).flatten else .bad
  | _ => .bad
def mRep (g : Evn → RE (List PyData)) (f : Evn → RE PyData) (ρ : Evn) : RE (List PyData) := (mDsp g ρ).bind fun ds => (f ρ).bind (pRep ds)
theorem vf_rep (h : VA X P es g) (hk : VE X P k fk) : VF X P (.BinOp (.List es p2) .Mult k pos) (mRep g fk) := PE_mono (pe_op op_rep (pe_lst h) hk) fun σ H Q h => by
  obtain ⟨ρ, F, hR, h⟩ := h
  have h' : OutF X P σ Q F H ((g ρ).bind fun ds => (if ds.length ≤ sizeLine then .ok ds else .bad : RE (List PyData)).bind fun ds => (fk ρ).bind (pRep ds)) := by
    have e : mRep g fk ρ = (g ρ).bind fun ds => (if ds.length ≤ sizeLine then .ok ds else .bad : RE (List PyData)).bind fun ds => (fk ρ).bind (pRep ds) := by
      unfold mRep mDsp; rw [bind_assoc]
    rw [← e]; exact h
  refine OutF.firstA hR h' fun ds vs F1 H1 e1 hv R1 h1 => ?_
  have hl := hv.length
  by_cases hz : ds.length ≤ sizeLine
  case neg => rw [if_neg hz] at h1; exact h1.elim
  rw [if_pos hz] at h1
  refine ⟨by omega, fun l hn => ?_⟩
  have f1 := R1.fh.free hn
  have e2 : Ext F1 H1 F1 (upd H1 l (.lst vs)) := Ext.beside R1.fh hn
  have h2 : OutF X P σ Q F1 (upd H1 l (.lst vs)) ((fk ρ).bind (pRep ds)) :=
    R.post_mono h1 (fun ds q p xs H2 F2 e3 n f h1 hz hv => q p xs H2 F2 (e2.trans e3) (e2.hh.free n) f h1 hz hv) (fun c _ q C H2 F2 hm e3 => q C H2 F2 hm (e2.trans e3))
  refine OutF.first (R1.step e2) h2 fun d v F2 H2 e3 hv2 R2 h3 => ?_
  cases hv2 with
  | int i =>
    have h3' : OutF X P σ Q F2 H2 (if repOk ds.length i then .ok (List.replicate i.toNat ds).flatten else .bad) := h3
    by_cases hr : repOk ds.length i
    · rw [if_pos hr] at h3'
      refine ⟨l, i, vs, rfl, rfl, e3.hh l _ upd_same, hr.1, hr.2.1, by rw [hl]; exact hr.2.2, ?_⟩
      refine OutF.new R2.fh h3' ?_ ((VdAll.mono e3.ff _ _ hv).rep _)
      rw [PyProof.Rows.lm_len_rep_flat, hl, Nat.mul_comm]; exact hr.2.2
    · rw [if_neg hr] at h3'; exact h3'.elim
  | _ => exact h3.elim
/-- list(x) -/
def pLst : PyData → RE (List PyData)
  | .list ds => .ok ds
  | .tuple ds => .ok ds
  | _ => .bad
def mBind (f : Evn → RE PyData) (k : PyData → RE (List PyData)) (ρ : Evn) : RE (List PyData) := (f ρ).bind k
theorem vf_list (hg : Gl X "list") (hm : X.mg "list" = none) (ha : VE X P e fe) (he : starEach (e :: []) X.env = (false, eval e X.env) :: starEach [] X.env := by rfl) (hpl : (backTo pos (starEach [] X.env)).any (·.1) = false := by rfl) :
    VF X P (.Call (.Name "list" p) [e] [] pos) (mBind fe pLst) := PE_mono (pe_callTy call_list_of hg hm (by decide +kernel) (pa_cons ha pa_nil he) (he := he) (hpl := hpl)) fun σ H Q h => by
  obtain ⟨ρ, F, hR, h⟩ := h
  refine OutF.first hR h fun d v F1 H1 e1 hv R1 h1 => ?_
  cases hv with
  | lst hs hz ha => exact ⟨_, _, rfl, .inl (R1.fh.seq hs), OutF.new R1.fh h1 hz ha⟩
  | tup hs hz ha => exact ⟨_, _, rfl, .inr (same_sqT R1.fh hs), OutF.new R1.fh h1 hz ha⟩
  | _ => exact h1.elim
end
end PV
end
section
set_option Elab.async false
set_option linter.all false
set_option maxRecDepth 100000
set_option maxHeartbeats 4000000
namespace PV
open PySem PySem.Spec PyProof.Rows L2

/-! ### x[k], x a name that may hold its own list -/
def mIxO (i : Nat) (fk : Evn → RE PyData) (ρ : Evn) : RE PyData := match ρ[i]? with
  | some (some (.own ds)) => (fk ρ).bind fun k => ofO (pIdx (.list ds) k)
  | some (some (.val d)) => (fk ρ).bind fun k => ofO (pIdx d k)
  | _ => .bad
section
variable {X : Cx} {P : Pm} {pos p : Pos} {k : Expr} {fk : Evn → RE PyData} {x : Str}
theorem ve_ixO (i : Nat) (hk : VE X P k fk) (hN : X.N[i]? = some x := by rfl) (hv : Vis X.env.scope x := by first | exact Or.inl rfl | exact Or.inr (Or.inl rfl) | exact Or.inr (Or.inr rfl)) (hs : PlainIx k := by first | exact (fun _ _ => rfl) | (intro _ _; rfl)) (hd : (x == ("__debug__" : Str)) = false := by decide) (hcd : (x == ("__classdict__" : Str)) = false := by decide) :
    VE X P (.Subscript (.Name x p) k pos) (mIxO i fk) := PE_mono (pe_ix (ix_list.or ix_all) (pe_var (i := i) hN hv hd hcd) hk hs) fun σ H Q h => by
  obtain ⟨ρ, F, hR, h⟩ := h
  unfold mIxO at h
  split at h
  · rename_i ds q
    obtain ⟨a, xs, h1, h2, h3, h4, h5, h6⟩ := hR.own q
    refine ⟨_, h1, ?_⟩
    refine Out.first hR h fun kd kv F1 H1 e1 hkv R1 h9 => ?_
    obtain ⟨xs', g3, g4, g5, g6⟩ := R1.own_at q h1
    obtain ⟨r, hr, hq⟩ := h9.ofO
    cases hkv with
    | int j =>
      obtain ⟨v, w1, w2⟩ := g6.at (i := j) hr
      exact .inl ⟨a, xs', j, v, rfl, rfl, SqL.of g4, w1, hq v H1 F1 (Ext.refl R1.fh) w2⟩
    | _ => cases hr
  · rename_i d q
    obtain ⟨v, h1, h2⟩ := hR.slot i _ q
    refine ⟨v, h1, ?_⟩
    refine Out.first hR h fun kd kv F1 H1 e1 hkv R1 h9 => ?_
    obtain ⟨r, hr, hq⟩ := h9.ofO
    exact .inr ⟨F1, d, kd, r, R1.fh, Vd.mono e1.ff d v h2, hkv, hr, hq⟩
  · exact h.elim
end

/-! ### defs by name -/
abbrev FnP (K : PySem.W.Frag) (x : Str) (st : Stmt) (f : Addr) (fd : FuncData) : Prop := FunD K x x (defArgs st) (defBody st) (defScope st) [] [] f fd
/-- what a caller leans on -/
structure Cal (P : Program) (w : World) (K : PySem.W.Frag) (mg : Str → Option Value) (base : Heap) (k : Nat) (x : Str) (ps : List Str) (sem : List PyData → RE PyData) : Prop where
  ex : ∃ f fd, FnV P w K mg base k f fd ps sem ∧ mg x = some (.ref f) ∧ PySem.W.keepIn K (.ref f) = true ∧ Binds K fd ps []
section
variable {X : Cx} {P : Pm} {pos p : Pos} {e : Expr} {es : List Expr} {fa : Evn → RE (List PyData)} {sem : List PyData → RE PyData} {x : Str} {k j : Nat} {ps : List Str}
theorem ve_cal (c : Cal X.prog X.w X.K X.mg X.base k x ps sem) (hr : Room j X.A) (tk : Takes X P.W) (ha : VA X P (e :: es) fa) (hkj : k ≤ j := by first | decide | omega) (hg : Gl X x := by rfl) (hdb : (x == ("__debug__" : Str)) = false := by decide)
    (he : starEach (e :: es) X.env = (false, eval e X.env) :: starEach es X.env := by rfl) (hpl : (backTo pos (starEach es X.env)).any (·.1) = false := by rfl) :
    VE X P (.Call (.Name x p) (e :: es) [] pos) (mSeq sem fa) := by
  obtain ⟨f, fd, F, hm, hk, hb⟩ := c.ex
  exact ve_call F (hr.mono hkj) hg hm hk hb tk ha hdb he hpl
theorem ve_cal0 (c : Cal X.prog X.w X.K X.mg X.base k x ps sem) (hr : Room j X.A) (tk : Takes X P.W) (hkj : k ≤ j := by first | decide | omega) (hg : Gl X x := by rfl) (hdb : (x == ("__debug__" : Str)) = false := by decide) :
    VE X P (.Call (.Name x p) [] [] pos) (fun _ => sem []) := by
  obtain ⟨f, fd, F, hm, hk, hb⟩ := c.ex
  exact ve_call0 F (hr.mono hkj) hg hm hk hb tk hdb
end
section
variable {P : Program} {w : World} {K : PySem.W.Frag} {mg : Str → Option Value} {base : Heap}
theorem FnV.ofP {x : Str} {st : Stmt} {f : Addr} {fd : FuncData} {N ps : List Str} {k : Nat} {body : Evn → RS} (F : FnP K x st f fd) (S : FnScope N ps (defScope st))
    (hbody : ∀ (cdv : Value) (A : Around) (outer : List Env) (s : Shared) (H : Hp) (E : XK) (F0 : Hp), Room k (A.deeper (envOfC x (defScope st) s.heap.objs.size f cdv)) →
      VSs (cxOf (L2.CX P w) P w K mg base N x (defScope st) f cdv A outer s H E) ⟨H, F0, wE E, none⟩ (defBody st) body) :
    FnV P w K mg base (k + 1) f fd ps (fnM ps.length N.length body) := by
  refine ⟨F.ok S (fun vs H Q E h => ?_) (fun cdv A outer s H vs Q E hr h => ?_), fun ds h => fnM_ar h⟩
  · obtain ⟨F0, ds, _, hv, hl, _⟩ := h
    rw [hv.length, hl]
  · obtain ⟨F0, ds, sf, hv, hl, hp⟩ := h
    refine ⟨_, hbody cdv A outer s H E F0 hr, startE N.length ds, F0, rep_start sf hv, ?_⟩
    unfold fnM at hp
    rw [if_pos hl] at hp
    unfold OutS
    cases q : body (startE N.length ds) with
    | ok p =>
      rw [q] at hp
      obtain ⟨fl, ρ'⟩ := p
      cases fl with
      | nx => exact fun σ' H' F' _ r => hp _ _ F' r.ext .non
      | bk => exact hp.elim
      | ct => exact hp.elim
      | rt d => exact fun v σ' H' F' _ r hv' => hp v H' F' r.ext hv'
    | exc c ρ' =>
      rw [q] at hp
      exact fun C σ' H' F' hm _ r => hp C H' F' hm r.ext
    | bad => rw [q] at hp; exact hp.elim
abbrev BindH (x : Str) (st : Stmt) (ps : List Str) : Prop := ∀ (kV doc pm : Value) (an : Option Addr) (cdv ct : Value) (us : List Value), us.length = ps.length → bindArgs (PySem.W.fnOf x x (defArgs st) (defBody st) (defScope st) .none kV doc pm an cdv ct) ⟨us, []⟩ = pure (ps.zip us)
theorem Cal.of {x : Str} {st : Stmt} {f : Addr} {fd : FuncData} {N ps : List Str} {k : Nat} {body : Evn → RS} (F : FnP K x st f fd) (gl : mg x = some (.ref f)) (S : FnScope N ps (defScope st)) (hb : BindH x st ps)
    (hbody : ∀ (cdv : Value) (A : Around) (outer : List Env) (s : Shared) (H : Hp) (E : XK) (F0 : Hp), Room k (A.deeper (envOfC x (defScope st) s.heap.objs.size f cdv)) →
      VSs (cxOf (L2.CX P w) P w K mg base N x (defScope st) f cdv A outer s H E) ⟨H, F0, wE E, none⟩ (defBody st) body) :
    Cal P w K mg base (k + 1) x ps (fnM ps.length N.length body) := ⟨⟨f, fd, FnV.ofP F S hbody, gl, F.kp, FunD.bindsN F hb⟩⟩
theorem Cal.none {x : Str} {st : Stmt} {f : Addr} {fd : FuncData} {ps : List Str} {k : Nat} (F : FnP K x st f fd) (gl : mg x = some (.ref f)) (hb : BindH x st ps) : Cal P w K mg base k x ps (fun _ => .bad) := ⟨⟨f, fd, FnV.bad, gl, F.kp, FunD.bindsN F hb⟩⟩
/-- within a block nothing is let out -/
theorem takesN {X : Cx} {P : Pm} : Takes X P.nx.W := fun _ _ ⟨_, _, _, _, _, _, _, _, _, _, _, _, _, _, _, _, w⟩ => w.elim
/-- the law's call -/
theorem law_end {n : Nat} {sem : List PyData → RE PyData} (hn : n ≤ sizeLine) (h : ∀ ns : List Int, ns.length ≤ n → sem [.list (ns.map .int)] = .ok (.bool true)) :
    ∀ (H : Hp) (a : Addr) (ns : List Int), ns.length ≤ n → SqL K H a (ns.map V.int) → SpV K mg 1 sem [.ref a] H (fun v _ => v = .bl true) fun _ _ _ => False := fun H a ns hl hs => by
  have hv : VdAll K H (ns.map V.int) (ns.map PyData.int) := by
    induction ns with
    | nil => exact .nil
    | cons i r ih =>
      have go : ∀ l : List Int, VdAll K H (l.map V.int) (l.map PyData.int) := fun l => by
        induction l with
        | nil => exact .nil
        | cons a b ih => exact .cons (.int a) ih
      exact go _
  refine ⟨H, _, Same.refl _, .cons (.lst hs (by rw [List.length_map]; omega) hv) .nil, rfl, ?_⟩
  rw [h ns hl]
  intro v H' F' _ hv'
  cases hv'
  rfl
end
end PV
end
section
set_option Elab.async false
set_option linter.all false
set_option maxRecDepth 100000
set_option maxHeartbeats 4000000
namespace PV
open PySem PySem.Spec PySem.Calls PyProof.Rows L2 RT

/-! ### list(reversed(xs)) -/
section
variable {prog : Program} {w : World} {A : Around} {E : Value → Shared → Prop} {s : Shared}
theorem extend_rev {Rz : Result → Shared → Prop} {it l : Addr} {items : Array Value} (hh : A.handled = none) (hit : s.heap.IsRevIter it l ((items.size : Int) - 1)) (hl : s.heap.IsList l items) (hne : l ≠ it) (hn : items.size ≤ sizeLine) (Sd : Addr) (res : Value) (cz : Nat)
    (hS : s.heap.get? Sd = some { cls := .type "list", data := .seq #[] cz }) (hSi : Sd ≠ it) (hSl : Sd ≠ l)
    (hR : ∀ h' tk acc' c', (∀ b o, b ≠ Sd → b ≠ it → s.heap.get? b = some o → h'.get? b = some o) → h'.get? Sd = some { cls := .type "list", dict := none, data := .seq acc' c', slots := #[] } →
      ItemsOf (fun i v => items[items.size - 1 - i]? = some v) acc' items.size → Rz (.ok (.ret res)) { s with heap := h', toks := tk }) :
    wpAny (model prog w) A.in1 (Builtin.List.listExtendWith (.ref Sd) (.ref it) res)
      (fun fin s' => match fin with | .done f => Rz (.ok f) s' | .again c' => c'.quiet = true ∧ codeAny (model prog w) A c' Rz s') (fun e s' => Rz (.error e) s') s := by
  have W := (Walks.listRev (prog := prog) (w := w) (A := A.in1) hh it l hne items).toS
  have hSf : Sd ∉ [it, l] := by simp only [List.mem_cons, List.not_mem_nil, or_false, not_or]; exact ⟨hSi, hSl⟩
  have hT : s.TypeIs (.ref it) "list_reverseiterator" := Heap.IsRevIter.typeIs hit
  have k1 : Builtin.List.listSameRef (.ref Sd) (.ref it) = false := by simp [Builtin.List.listSameRef, hSi]
  unfold Builtin.List.listExtendWith
  refine wpAny_bind (wpAny_typeOf hT ?_)
  rw [if_neg (by rw [k1]; decide)]
  refine wpAny_bind (wpAny_pyIter_revIter hit (wpAny_bind (wpAny_holding ?_)))
  unfold Builtin.List.listLengthHint
  refine wpAny_bind (wpAny_specialOf hT nolen_lri ?_)
  show wpAny _ _ (specialOf (Value.ref it) (Str.ofString "__length_hint__") >>= _) _ _ s
  refine wpAny_bind (wpAny_specialOf hT hint_lri ?_)
  generalize hid : ("list_reverseiterator.__length_hint__" : String) = idz
  wp_delta
  rw [show splitId idz = some ("list_reverseiterator", "__length_hint__") from by subst hid; decide +kernel]
  subst hid
  refine wpAny_bind (wpAny_isInstance (b := true) hT (by rw [isSubtype_type]; kernel_rfl) (wpAny_pure ?_))
  rw [if_neg (by decide)]
  have e0 : ((items.size : Nat) : Int) - 1 - ((0 : Nat) : Int) = (items.size : Int) - 1 := by omega
  refine wpAny_pure ⟨plainId_quiet PySem.F.plain_extend_loop _, codeAny_extend_loopS W hn Sd hSf res items.size 0 _ #[] cz rfl (Nat.zero_le _) ⟨Nat.zero_le _, by rw [e0]; exact hit, hl⟩ hS (ItemsOf.nil _) fun s' acc' c' hm hS' hacc => ?_⟩
  rw [Moved.eq_with hm]
  refine hR s'.heap s'.toks acc' c' (fun b o hb hb2 e => hm.heap b o (fun hmem => ?_) e) hS' hacc
  rcases List.mem_cons.mp hmem with e' | hmem
  · exact hb e'
  · exact hb2 (List.mem_singleton.mp hmem)
theorem call_list_rev {Q : Value → Shared → Prop} {it l : Addr} {items : Array Value} (hh : A.handled = none) (hit : s.heap.IsRevIter it l ((items.size : Int) - 1)) (hl : s.heap.IsList l items) (hne : l ≠ it) (hn : items.size ≤ sizeLine)
    (hQ : ∀ h' tk acc' c', (∀ b o, b ≠ it → s.heap.get? b = some o → h'.get? b = some o) → h'.get? s.heap.objs.size = some { cls := .type "list", dict := none, data := .seq acc' c', slots := #[] } →
      ItemsOf (fun i v => items[items.size - 1 - i]? = some v) acc' items.size → Q (.ref s.heap.objs.size) { s with heap := h', toks := tk }) :
    wpAny (model prog w) A (call (.type "list") [.ref it]) Q E s := by
  refine callType_codes (Q₁ := fun obj sz => obj = .ref s.heap.objs.size ∧ sz = { s with heap := s.heap.push { cls := .type "list", data := .seq #[] } }) PySem.F.called_list (PySem.F.typeCall_list_1 _) PySem.F.entry_list_init
    (code_list_new _ ⟨rfl, rfl⟩) fun obj sz hz => ?_
  obtain ⟨rfl, rfl⟩ := hz
  have hS : (s.heap.push { cls := .type "list", data := .seq #[] }).get? s.heap.objs.size = some { cls := .type "list", data := .seq #[] } := Heap.get?_push_size _ rfl
  obtain ⟨oi, hoi, _⟩ := id hit
  obtain ⟨ol, hol, _⟩ := id hl
  have ni : s.heap.objs.size ≠ it := Nat.ne_of_gt (Heap.lt_size hoi)
  have nl : s.heap.objs.size ≠ l := Nat.ne_of_gt (Heap.lt_size hol)
  refine ⟨⟨_, hS, rfl⟩, PySem.F.args_list_init_2 _ _, ?_⟩
  generalize hSd : s.heap.objs.size = Sd at *
  show wpAny _ _ (do let old ← Builtin.List.listItems (.ref Sd); Builtin.List.listUpdate (.ref Sd) (fun _ => #[]); letGo old.toList.reverse; Builtin.List.listExtendWith (.ref Sd) (.ref it) .none) _ _ _
  refine wpAny_bind ?_
  unfold Builtin.List.listItems
  refine wpAny_bind (wpAny_seqItems hS rfl (wpAny_pure ?_))
  show wpAny _ _ (updateSeq Sd (fun _ => #[]) >>= fun _ => letGo (#[] : Array Value).toList.reverse >>= fun _ => Builtin.List.listExtendWith (.ref Sd) (.ref it) .none) _ _ _
  refine wpAny_bind (wpAny_updateSeq hS rfl ?_)
  have hS2 := Heap.get?_update_self (Obj.mapSeq (fun _ => (#[] : Array Value))) hS rfl
  have oth : ∀ b o, b ≠ Sd → (s.heap.push { cls := .type "list", data := .seq #[] }).get? b = some o → ((s.heap.push { cls := .type "list", data := .seq #[] }).update Sd (Obj.mapSeq (fun _ => (#[] : Array Value)))).get? b = some o :=
    fun b o hb e => (Heap.get?_update_other _ _ (Ne.symm hb)).trans e
  refine wpAny_bind (wpAny_letGo ?_)
  refine extend_rev (A := A.in1) hh (hit.at fun o e => oth _ _ (Ne.symm ni) (Heap.get?_push_of_some _ e)) ?_ hne hn Sd .none _ hS2 ni nl fun h' tk acc' c' hk hS' hacc => ?_
  · obtain ⟨o, ho, r⟩ := hl
    exact ⟨o, oth _ _ (Ne.symm nl) (Heap.get?_push_of_some _ ho), r⟩
  · exact ⟨rfl, hQ h' tk acc' c' (fun b o hb e => hk b o (by rw [← hSd]; exact Nat.ne_of_lt (Heap.lt_size e)) hb (oth b o (by rw [← hSd]; exact Nat.ne_of_lt (Heap.lt_size e)) (Heap.get?_push_of_some _ e))) hS' hacc⟩
end
section
variable {X : Cx} {P : Pm} {pos p pos2 p2 : Pos} {e : Expr} {fe : Evn → RE PyData}
def pRevL : PyData → RE (List PyData)
  | .list ds => .ok ds.reverse
  | _ => .bad
theorem vf_listrev (hg : Gl X "list") (hm : X.mg "list" = none) (hg2 : Gl X "reversed") (hm2 : X.mg "reversed" = none) (he : VE X P e fe) (hc : X.calm = true := by rfl)
    (hs : starEach [e] X.env = (false, eval e X.env) :: starEach [] X.env := by rfl)
    (hs2 : starEach [.Call (.Name "reversed" p2) [e] [] pos2] X.env = (false, eval (.Call (.Name "reversed" p2) [e] [] pos2) X.env) :: starEach [] X.env := by rfl) :
    VF X P (.Call (.Name "list" p) [.Call (.Name "reversed" p2) [e] [] pos2] [] pos) (mBind fe pRevL) := by
  have key : PE X (.Call (.Name "list" p) [.Call (.Name "reversed" p2) [e] [] pos2] [] pos) (fun σ H Q => tV X P fe σ H fun v H1 => ∃ (a : Addr) (xs : List V), v = .ref a ∧ SqL X.K H1 a xs ∧ ∀ q, H1 q = none → Q (.ref q) (upd H1 q (.lst xs.reverse))) := by
    refine ⟨fun pins s σ H Q I h => ?_⟩
    refine Call_ (ld_blt I hg hm (show bootBuiltins "list" = some (.type "list") by decide +kernel) (PyProof.Rows.callWith_type1 (args_cons (Call_ (ld_blt I hg2 hm2 PyProof.Rows.boot_reversed (PyProof.Rows.callWith_type1 (args_cons (thn (PE.run he pins s σ H _ I h) fun u s1 ⟨v, H1, I1, r1, q1⟩ => args_nil ?_) hs) hs rfl))) hs2) hs2 rfl))
    obtain ⟨a, xs, ev, hq, q⟩ := q1
    subst ev
    cases (show u = Value.ref a from r1)
    obtain ⟨its, rv, pl, hz⟩ := I1.list hq
    refine call_reversed_list pl.isList (args_nil ?_)
    have k0 : ∀ b o, s1.heap.get? b = some o → (s1.heap.push (revObj a ((its.toArray.size : Int) - 1))).get? b = some o := fun b o e => Heap.get?_push_of_some _ e
    have hl := pl.isList
    obtain ⟨ol, hol, _⟩ := id hl
    have hne : a ≠ s1.heap.objs.size := Nat.ne_of_lt (Heap.lt_size hol)
    have hn : its.toArray.size ≤ sizeLine := by rw [List.size_toArray, ← rv.length]; exact hz
    refine call_list_rev (s := { s1 with heap := s1.heap.push (revObj a ((its.toArray.size : Int) - 1)) }) (I1.ok.hd hc) ⟨_, Heap.get?_push_size _ rfl, rfl, rfl⟩ (hl.push _) hne hn fun h' tk acc c' hk hS hi => ?_
    have hsz : (s1.heap.push (revObj a ((its.toArray.size : Int) - 1))).objs.size = s1.heap.objs.size + 1 := Heap.size_push _ _
    have hN : H1 (s1.heap.objs.size + 1) = none := I1.hok.fresh (Nat.le_succ _)
    rw [hsz] at hS
    have J := I1.laid (a := s1.heap.objs.size + 1) (o := .lst xs.reverse) (t' := tk) (fun b o e => hk b o (Nat.ne_of_lt (Heap.lt_size e)) (k0 b o e)) (Nat.le_succ _)
      (show ObjOk X.prog X.w _ h' _ (.lst xs.reverse) from ⟨by rw [List.length_reverse]; exact hz, acc.toList, c', vals_rev rv hi, by rw [Array.toArray_toList]; exact hS⟩)
    show EP X pins σ Q (.ref (s1.heap.push (revObj a ((its.toArray.size : Int) - 1))).objs.size) _
    rw [hsz]
    exact ⟨.ref (s1.heap.objs.size + 1), _, J, rfl, q _ hN⟩
  refine PE_mono key fun σ H Q h => ?_
  obtain ⟨ρ, F, hR, h⟩ := h
  refine OutF.first hR h fun d v F1 H1 e1 hv R1 h1 => ?_
  cases hv with
  | lst hs hz ha => exact ⟨_, _, rfl, R1.fh.seq hs, OutF.new R1.fh h1 (by rw [List.length_reverse]; exact hz) ha.reverse⟩
  | _ => exact h1.elim
end
end PV
end
section
set_option Elab.async false
set_option linter.all false
set_option maxRecDepth 100000
set_option maxHeartbeats 4000000
namespace PV
open PySem PySem.Spec PySem.Calls PyProof.Rows L2

/-! ### in -/
def inOk (d : PyData) (ds : List PyData) : Prop := d.depth ≤ 60 ∨ PyData.depthAll ds ≤ 60
instance (d : PyData) (ds : List PyData) : Decidable (inOk d ds) := by unfold inOk; exact inferInstance
def inD (d : PyData) (ds : List PyData) : Bool := ds.any fun y => PyData.eqv y d
def pIn : PyData → PyData → Option PyData
  | d, .list ds => if inOk d ds then some (.bool (inD d ds)) else none
  | d, .tuple ds => if inOk d ds then some (.bool (inD d ds)) else none
  | .str i, .str j => some (.bool (!(Builtin.Str.occurrences j i 0 j.length 1).isEmpty))
  | _, _ => none
def pNotIn : PyData → PyData → Option PyData
  | d, .list ds => if inOk d ds then some (.bool (!inD d ds)) else none
  | d, .tuple ds => if inOk d ds then some (.bool (!inD d ds)) else none
  | .str i, .str j => some (.bool (!!(Builtin.Str.occurrences j i 0 j.length 1).isEmpty))
  | _, _ => none
section
variable {X : Cx}
theorem opv_in {k : Nat} (hr : Room k X.A) : OpV X (compareOp .In) pIn := by
  intro pins s σ H x y v u Q I rx ry F d e r sf hx hy hg hq
  have hu := hr.units
  have hun := hr.un
  have hx' := Vd.dp d x (Vd.mono sf d x hx)
  have hy' := Vd.dp e y (Vd.mono sf e y hy)
  obtain ⟨as, r1⟩ := Dp.reads I d x v hx'.1 rx
  obtain ⟨bs, r2⟩ := Dp.reads I e y u hy'.1 ry
  unfold pIn at hg
  split at hg
  · obtain ⟨hp, rfl⟩ := some_of_if hg
    exact SeqAt.in_list_reads r2 r1 (by simpa only [PyData.canLay0] using hy'.2) hx'.2 (by rcases hp with h | h <;> omega) ⟨.bl _, H, I, rfl, hq _ _ F (Ext.refl sf) (.bl _)⟩
  · obtain ⟨hp, rfl⟩ := some_of_if hg
    exact SeqAt.in_tuple_reads r2 r1 (by simpa only [PyData.canLay0] using hy'.2) hx'.2 (by rcases hp with h | h <;> omega) ⟨.bl _, H, I, rfl, hq _ _ F (Ext.refl sf) (.bl _)⟩
  · cases hg
    cases hx
    cases hy
    exact op_in_str pins s σ H _ _ v u Q I rx ry ⟨_, _, rfl, rfl, hq _ _ F (Ext.refl sf) (.bl _)⟩
  · cases hg
theorem opv_notin {k : Nat} (hr : Room k X.A) : OpV X (compareOp .NotIn) pNotIn := by
  intro pins s σ H x y v u Q I rx ry F d e r sf hx hy hg hq
  have hu := hr.units
  have hun := hr.un
  have hx' := Vd.dp d x (Vd.mono sf d x hx)
  have hy' := Vd.dp e y (Vd.mono sf e y hy)
  obtain ⟨as, r1⟩ := Dp.reads I d x v hx'.1 rx
  obtain ⟨bs, r2⟩ := Dp.reads I e y u hy'.1 ry
  unfold pNotIn at hg
  split at hg
  · obtain ⟨hp, rfl⟩ := some_of_if hg
    exact SeqAt.notIn_list_reads r2 r1 (by simpa only [PyData.canLay0] using hy'.2) hx'.2 (by rcases hp with h | h <;> omega) ⟨.bl _, H, I, rfl, hq _ _ F (Ext.refl sf) (.bl _)⟩
  · obtain ⟨hp, rfl⟩ := some_of_if hg
    exact SeqAt.notIn_tuple_reads r2 r1 (by simpa only [PyData.canLay0] using hy'.2) hx'.2 (by rcases hp with h | h <;> omega) ⟨.bl _, H, I, rfl, hq _ _ F (Ext.refl sf) (.bl _)⟩
  · cases hg
    cases hx
    cases hy
    exact op_notin_str pins s σ H _ _ v u Q I rx ry ⟨_, _, rfl, rfl, hq _ _ F (Ext.refl sf) (.bl _)⟩
  · cases hg
end

/-! ### sorted -/
/-- the order of alike data -/
def leD (a b : PyData) : Bool := !PySem.W.dataLt b a
def sortOk (ds : List PyData) : Prop := PySem.W.AllAlike ds ∧ PySem.W.Sortable ds ∧ ∀ d ∈ ds, d.depth ≤ 60
open Classical in
noncomputable def bSorted : List PyData → Option PyData
  | [.list ds] => if sortOk ds then some (.list (ds.mergeSort leD)) else none
  | [.tuple ds] => none
  | _ => none
section
variable {X : Cx}
theorem vals_each : ∀ {xs : List V} {us : List Value} {ds : List PyData} {F : Hp}, Vals xs us → VdAll X.K F xs ds → PySem.W.EachIs (fun (v : Value) (b : V × PyData) => RelV b.1 v ∧ Vd X.K F b.1 b.2) us (xs.zip ds)
  | _, _, _, _, .nil, .nil => .nil
  | _, _, _, _, .cons r t, .cons h t' => .cons ⟨r, h⟩ (vals_each t t')
theorem each_vals {F : Hp} : ∀ {us : List Value} {zs : List (V × PyData)}, PySem.W.EachIs (fun (v : Value) (b : V × PyData) => RelV b.1 v ∧ Vd X.K F b.1 b.2) us zs → Vals (zs.map (·.1)) us ∧ VdAll X.K F (zs.map (·.1)) (zs.map (·.2))
  | _, _, .nil => ⟨.nil, .nil⟩
  | _, _, .cons r t => ⟨.cons r.1 (each_vals t).1, .cons r.2 (each_vals t).2⟩
theorem zip_snd {F : Hp} : ∀ {xs : List V} {ds : List PyData}, VdAll X.K F xs ds → (xs.zip ds).map (·.2) = ds
  | _, _, .nil => rfl
  | _, _, .cons _ t => by rw [List.zip_cons_cons, List.map_cons, zip_snd t]
theorem cb_sorted {k : Nat} (hr : Room k X.A) : CallR X (.builtin "sorted") (rCV X bSorted) := by
  intro pins s σ H xs us Q I r h
  obtain ⟨F, ds, d, sf, hv, hg, hq⟩ := h
  unfold bSorted at hg
  split at hg
  · rename_i es
    by_cases hp : sortOk es
    case neg => rw [if_neg hp] at hg; cases hg
    rw [if_pos hp] at hg
    cases hg
    obtain ⟨v, rfl, h1⟩ := vd1 hv
    cases h1 with
    | @lst a ys _ hs hz ha =>
      rw [Vals.ref1 r]
      obtain ⟨its, rv, hl, hz'⟩ := I.list (sf.seq hs)
      have hmap : (ys.zip es).map (fun b : V × PyData => b.2) = es := zip_snd ha
      have hun := hr.un
      have ev := vals_each rv ha
      have hlen : (ys.zip es).length = es.length := by rw [← hmap, List.length_map, hmap]
      refine PySem.W.sorted_data (β := V × PyData) (enc := fun b => b.2) (vs := its) (bs := ys.zip es) hl.isList ev ?_ (by rw [hmap]; exact hp.1) (by rw [hmap]; exact hp.2.1) (by rw [hlen, ← ha.length]; exact hz) (fun b hb => ?_) fun out ho eo => ?_
      · refine ev.mono fun u b ⟨q1, q2⟩ => ?_
        exact Dp.reads I b.2 b.1 u (Vd.dp b.2 b.1 (Vd.mono sf b.2 b.1 q2)).1 q1
      · have hm : b.2 ∈ es := by rw [← hmap]; exact List.mem_map.mpr ⟨b, hb, rfl⟩
        have := hp.2.2 b.2 hm
        omega
      · obtain ⟨k1, k2⟩ := each_vals eo
        obtain ⟨ep, he'⟩ := PyProof.Rows.sortedAll_at s.heap its out.toArray
        have hsort : ((ys.zip es).mergeSort (PySem.W.dataLe false fun b : V × PyData => b.2)).map (·.2) = es.mergeSort leD := by
          have := PySem.W.sort_maps (r := PySem.W.dataLe false fun b : V × PyData => b.2) (s := leD) (fun b : V × PyData => b.2) (l := ys.zip es) fun a _ b _ => rfl
          rw [this, hmap]
        have hz2 : (((ys.zip es).mergeSort (PySem.W.dataLe false fun b : V × PyData => b.2)).map (·.1)).length ≤ sizeLine := by
          rw [List.length_map, List.length_mergeSort, hlen, ← ha.length]; exact hz
        rw [hsort] at k2
        refine ⟨.ref _, upd H (s.heap.objs.size + 1) (.lst _), I.laid (t' := s.toks) (fun _ _ => PyProof.Rows.sortedAll_old) (Nat.le_succ _) ⟨hz2, out, ep, k1, he'⟩, rfl, ?_⟩
        exact new_lst sf hz2 k2 hq _ (I.hok.fresh (Nat.le_succ _))
  · cases hg
  · cases hg
end
/-- the law's end, what may be let out hanging on the world -/
theorem walk_world {l : PySem.W.OpenLaw} {n k : Nat} {q : Program} {loose : List Str} {XP : (Str → Option Value) → Heap → Prop} {YP : World → Heap → Prop} {dr : DefRec} {x : Str} (hn : l.most = some n) (hn2 : n ≤ sizeLine) (hdf : dr.params.defaults = []) (hr : Room k callerA)
    (Fz : ∀ (w : World) (mg : Str → Option Value) (fa : Addr) (h : Heap), YP w h → h.Ns mainGlobals mg → mg dr.name = some (.ref fa) →
      ∃ (K : PySem.W.Frag) (fd : FuncData) (sp : Sp), K.In h ∧ (∀ (s : Shared) (u : Value), BindsTo s fd ⟨[u], []⟩ [(x, u)]) ∧
        (∀ (H : Hp) (a : Addr) (ns : List Int), ns.length ≤ n → SqL K H a (ns.map V.int) → sp [.ref a] H (fun v _ => v = .bl true) fun _ _ _ => False) ∧
        ∀ base : Heap, K.In base → base.Ns mainGlobals mg → FnOk l.prog w K mg base (L2.CX l.prog w) k fa fd [x] sp) :
    PySem.W.WalkO q loose XP YP l.row.toRowW dr [] (fun f vs => PySem.call f vs) := by
  refine Att.attach_call hn hdf fun w s₀ s₁ mg mb fa o pm cd doc a vs ns G Y ho hd hcd hmg hobj hints hlen hg => ?_
  obtain ⟨K, fd, sp, KX, hb, hsp, hF⟩ := Fz w mg fa _ Y G.T.g hmg
  refine law_call KX G.T.g G.T.b G.T.builtins G.T.nolimit hg hobj hints (Nat.le_trans hlen hn2) hr hF hb (fun H _ hS => hsp H a ns hlen hS) fun H e s' z => ?_
  obtain ⟨_, _, _, _, _, _, _, _, _, _, _, _, z⟩ := z
  exact z.elim
end PV
end
section
set_option Elab.async false
set_option linter.all false
set_option maxRecDepth 100000
set_option maxHeartbeats 4000000
namespace PV
open PySem

/-! ### meanings, reckoned -/
theorem nr {α : Sort _} {a b : α} (h : a = b) : a = b := h
@[simp] theorem bind_ok {ε α β : Type} (a : α) (f : α → R ε β) : R.bind (.ok a) f = f a := nr rfl
@[simp] theorem bind_bad {ε α β : Type} (f : α → R ε β) : R.bind (.bad) f = .bad := nr rfl
@[simp] theorem bind_exc {ε α β : Type} (c : Str) (e : ε) (f : α → R ε β) : R.bind (.exc c e) f = .exc c e := nr rfl
@[simp] theorem at_ok {α : Type} (a : α) (ρ : Evn) : R.at (.ok a : RE α) ρ = .ok a := nr rfl
@[simp] theorem at_exc {α : Type} (c : Str) (u : Unit) (ρ : Evn) : R.at (.exc c u : RE α) ρ = .exc c ρ := nr rfl
@[simp] theorem ofO_some {α : Type} (a : α) : ofO (some a) = .ok a := nr rfl
@[simp] theorem oS_some {α : Type} (a : α) : oS (some a) = .ok a := nr rfl
@[simp] theorem nox_okk {α : Type} (a : α) : nox (.ok a : RE α) = .ok a := nr rfl
/-- a name's datum -/
def gtE : Evn → Nat → RE PyData
  | [], _ => .bad
  | some (.val d) :: _, 0 => .ok d
  | some (.own _) :: _, 0 => .bad
  | some (.exn _) :: _, 0 => .bad
  | none :: _, 0 => .bad
  | _ :: r, n + 1 => gtE r n
/-- a list of one's own -/
def gtO : Evn → Nat → Option (List PyData)
  | [], _ => none
  | some (.val _) :: _, 0 => none
  | some (.own ds) :: _, 0 => some ds
  | some (.exn _) :: _, 0 => none
  | none :: _, 0 => none
  | _ :: r, n + 1 => gtO r n
/-- either -/
def gtA : Evn → Nat → RE PyData
  | [], _ => .bad
  | some (.val d) :: _, 0 => .ok d
  | some (.own ds) :: _, 0 => .ok (.list ds)
  | some (.exn _) :: _, 0 => .bad
  | none :: _, 0 => .bad
  | _ :: r, n + 1 => gtA r n
/-- put in -/
def stE : Evn → Nat → Cel → Evn
  | [], _, _ => []
  | _ :: r, 0, x => some x :: r
  | o :: r, n + 1, x => o :: stE r n x
/-- made empty -/
def clE : Evn → Nat → Evn
  | [], _ => []
  | _ :: r, 0 => none :: r
  | o :: r, n + 1 => o :: clE r n
/-- frozen -/
def fzE : Evn → Nat → Evn
  | [], _ => []
  | some (.own ds) :: r, 0 => some (.val (.list ds)) :: r
  | some (.val d) :: r, 0 => some (.val d) :: r
  | some (.exn c) :: r, 0 => some (.exn c) :: r
  | none :: r, 0 => none :: r
  | o :: r, n + 1 => o :: fzE r n
@[simp] theorem g_v (d : PyData) (r : Evn) : gtE (some (.val d) :: r) 0 = .ok d := nr rfl
@[simp] theorem g_s (o : Option Cel) (r : Evn) (n : Nat) : gtE (o :: r) (n + 1) = gtE r n := by cases o with
  | none => rfl
  | some c => cases c <;> rfl
@[simp] theorem go_v (ds : List PyData) (r : Evn) : gtO (some (.own ds) :: r) 0 = some ds := nr rfl
@[simp] theorem go_s (o : Option Cel) (r : Evn) (n : Nat) : gtO (o :: r) (n + 1) = gtO r n := by cases o with
  | none => rfl
  | some c => cases c <;> rfl
@[simp] theorem ga_v (d : PyData) (r : Evn) : gtA (some (.val d) :: r) 0 = .ok d := nr rfl
@[simp] theorem ga_o (ds : List PyData) (r : Evn) : gtA (some (.own ds) :: r) 0 = .ok (.list ds) := nr rfl
@[simp] theorem ga_s (o : Option Cel) (r : Evn) (n : Nat) : gtA (o :: r) (n + 1) = gtA r n := by cases o with
  | none => rfl
  | some c => cases c <;> rfl
@[simp] theorem s_z (o : Option Cel) (r : Evn) (x : Cel) : stE (o :: r) 0 x = some x :: r := nr rfl
@[simp] theorem s_s (o : Option Cel) (r : Evn) (n : Nat) (x : Cel) : stE (o :: r) (n + 1) x = o :: stE r n x := nr rfl
@[simp] theorem c_z (o : Option Cel) (r : Evn) : clE (o :: r) 0 = none :: r := nr rfl
@[simp] theorem c_s (o : Option Cel) (r : Evn) (n : Nat) : clE (o :: r) (n + 1) = o :: clE r n := nr rfl
theorem set_clE : ∀ (ρ : Evn) (i : Nat), ρ.set i none = clE ρ i
  | [], _ => rfl
  | _ :: _, 0 => rfl
  | o :: r, n + 1 => by rw [List.set_cons_succ, set_clE r n]; rfl
@[simp] theorem fz_o (ds : List PyData) (r : Evn) : fzE (some (.own ds) :: r) 0 = some (.val (.list ds)) :: r := nr rfl
@[simp] theorem fz_v (d : PyData) (r : Evn) : fzE (some (.val d) :: r) 0 = some (.val d) :: r := nr rfl
@[simp] theorem fz_s (o : Option Cel) (r : Evn) (n : Nat) : fzE (o :: r) (n + 1) = o :: fzE r n := by cases o with
  | none => rfl
  | some c => cases c <;> rfl
theorem set_stE : ∀ (ρ : Evn) (i : Nat) (x : Cel), ρ.set i (some x) = stE ρ i x
  | [], _, _ => rfl
  | _ :: _, 0, _ => rfl
  | o :: r, n + 1, x => by rw [List.set_cons_succ, set_stE r n x]; rfl
@[simp] theorem e_mGet (i : Nat) (ρ : Evn) : mGet i ρ = gtE ρ i := by
  unfold mGet
  induction ρ generalizing i with
  | nil => rfl
  | cons o r ih => cases i with
    | zero => rcases o with _ | ⟨_ | _ | _⟩ <;> rfl
    | succ n => rw [List.getElem?_cons_succ, g_s]; exact ih n
theorem ownAt_gtO (i : Nat) (ρ : Evn) : ownAt i ρ = gtO ρ i := by
  unfold ownAt
  induction ρ generalizing i with
  | nil => rfl
  | cons o r ih => cases i with
    | zero => rcases o with _ | ⟨_ | _ | _⟩ <;> rfl
    | succ n => rw [List.getElem?_cons_succ, go_s]; exact ih n
theorem fz_eq (i : Nat) (ρ : Evn) : freeze i ρ = fzE ρ i := by
  unfold freeze
  induction ρ generalizing i with
  | nil => rfl
  | cons o r ih => cases i with
    | zero => rcases o with _ | ⟨_ | _ | _⟩ <;> rfl
    | succ n =>
      rw [List.getElem?_cons_succ, fz_s]
      rw [← ih n]
      cases r[n]? with
      | none => rfl
      | some o => rcases o with _ | ⟨_ | _ | _⟩ <;> rfl
@[simp] theorem e_mC (d : PyData) (ρ : Evn) : mC d ρ = .ok d := nr rfl
@[simp] theorem e_m2 (g : PyData → PyData → Option PyData) (fa fb : Evn → RE PyData) (ρ : Evn) : m2 g fa fb ρ = (fa ρ).bind fun x => (fb ρ).bind fun y => ofO (g x y) := nr rfl
@[simp] theorem e_m1 (g : PyData → Option PyData) (fa : Evn → RE PyData) (ρ : Evn) : m1 g fa ρ = (fa ρ).bind fun d => ofO (g d) := nr rfl
@[simp] theorem e_mT (f : Evn → RE PyData) (ρ : Evn) : mT f ρ = (f ρ).bind fun d => ofO (truth d) := nr rfl
@[simp] theorem e_mB (f : Evn → RE PyData) (ρ : Evn) : mB f ρ = (f ρ).bind fun d => ofO (toB d) := nr rfl
@[simp] theorem e_mAndB (fa fb : Evn → RE Bool) (ρ : Evn) : mAndB fa fb ρ = (fa ρ).bind fun c => if c then fb ρ else .ok false := nr rfl
@[simp] theorem e_mOrB (fa fb : Evn → RE Bool) (ρ : Evn) : mOrB fa fb ρ = (fa ρ).bind fun c => if c then .ok true else fb ρ := nr rfl
@[simp] theorem e_mNotB (fa : Evn → RE Bool) (ρ : Evn) : mNotB fa ρ = (fa ρ).bind fun c => .ok (!c) := nr rfl
@[simp] theorem e_mAnd (fa fb : Evn → RE PyData) (ρ : Evn) : mAnd fa fb ρ = (fa ρ).bind fun d => (ofO (toB d)).bind fun c => if c then fb ρ else .ok (.bool false) := nr rfl
@[simp] theorem e_mOr (fa fb : Evn → RE PyData) (ρ : Evn) : mOr fa fb ρ = (fa ρ).bind fun d => (ofO (toB d)).bind fun c => if c then .ok (.bool true) else fb ρ := nr rfl
@[simp] theorem e_mIf (fc : Evn → RE Bool) (fa fb : Evn → RE PyData) (ρ : Evn) : mIf fc fa fb ρ = (fc ρ).bind fun c => if c then fa ρ else fb ρ := nr rfl
@[simp] theorem e_mChain (g g' : PyData → PyData → Option PyData) (fa fb fc : Evn → RE PyData) (ρ : Evn) : mChain g g' fa fb fc ρ =
  (fa ρ).bind fun x => (fb ρ).bind fun y => (ofO (g x y)).bind fun z => (ofO (toB z)).bind fun k => if k then (fc ρ).bind fun w => ofO (g' y w) else .ok (.bool false) := nr rfl
@[simp] theorem e_mNil (ρ : Evn) : mNil ρ = .ok [] := nr rfl
@[simp] theorem e_mCons (f : Evn → RE PyData) (g : Evn → RE (List PyData)) (ρ : Evn) : mCons f g ρ = (f ρ).bind fun d => (g ρ).bind fun ds => .ok (d :: ds) := nr rfl
@[simp] theorem e_mSeq (k : List PyData → RE PyData) (g : Evn → RE (List PyData)) (ρ : Evn) : mSeq k g ρ = (g ρ).bind k := nr rfl
@[simp] theorem e_mCall (g : List PyData → Option PyData) (fa : Evn → RE (List PyData)) (ρ : Evn) : mCall g fa ρ = (fa ρ).bind fun ds => ofO (g ds) := nr rfl
@[simp] theorem e_mNo (ρ : Evn) : mNo ρ = .ok none := nr rfl
@[simp] theorem e_mPart (f : Evn → RE PyData) (ρ : Evn) : mPart f ρ = (f ρ).bind fun d => (ofO (toI d)).bind fun i => .ok (some i) := nr rfl
@[simp] theorem e_mCut (f : Evn → RE PyData) (l h : Evn → RE (Option Int)) (ρ : Evn) : mCut f l h ρ = (f ρ).bind fun d => (l ρ).bind fun lo => (h ρ).bind fun hi => ofO (pCut d lo hi) := nr rfl
@[simp] theorem e_mIs (T : Ty) (f : Evn → RE PyData) (ρ : Evn) : mIs T f ρ = (f ρ).bind fun d => .ok (.bool (isTy T d)) := nr rfl
@[simp] theorem e_mIs2 (T U : Ty) (f : Evn → RE PyData) (ρ : Evn) : mIs2 T U f ρ = (f ρ).bind fun d => .ok (.bool (isTy T d || isTy U d)) := nr rfl
@[simp] theorem e_mL (f : Evn → RE (List PyData)) (ρ : Evn) : mL f ρ = (f ρ).bind fun ds => .ok (.list ds) := nr rfl
@[simp] theorem e_mDsp (g : Evn → RE (List PyData)) (ρ : Evn) : mDsp g ρ = (g ρ).bind fun ds => if ds.length ≤ sizeLine then .ok ds else .bad := nr rfl
@[simp] theorem e_mRep (g : Evn → RE (List PyData)) (f : Evn → RE PyData) (ρ : Evn) : mRep g f ρ = (mDsp g ρ).bind fun ds => (f ρ).bind (pRep ds) := nr rfl
@[simp] theorem e_mBind (f : Evn → RE PyData) (k : PyData → RE (List PyData)) (ρ : Evn) : mBind f k ρ = (f ρ).bind k := nr rfl
@[simp] theorem e_mIxO (i : Nat) (fk : Evn → RE PyData) (ρ : Evn) : mIxO i fk ρ = (gtA ρ i).bind fun d => (fk ρ).bind fun k => ofO (pIdx d k) := by
  unfold mIxO
  have : ∀ (ρ : Evn) (i : Nat) (fk : RE PyData), (match ρ[i]? with | some (some (.own ds)) => fk.bind fun k => ofO (pIdx (.list ds) k) | some (some (.val d)) => fk.bind fun k => ofO (pIdx d k) | _ => (.bad : RE PyData)) = (gtA ρ i).bind fun d => fk.bind fun k => ofO (pIdx d k) := by
    intro ρ
    induction ρ with
    | nil => intro i fk; rfl
    | cons o r ih => intro i fk; cases i with
      | zero => rcases o with _ | ⟨_ | _ | _⟩ <;> rfl
      | succ n => rw [List.getElem?_cons_succ, ga_s]; exact ih n fk
  exact this ρ i (fk ρ)
@[simp] theorem e_mBor (i : Nat) (f : Evn → RE PyData) (ρ : Evn) : mBor i f ρ = (f (freeze i ρ)).bind fun d => if scal d then .ok d else .bad := nr rfl
@[simp] theorem e_mBorB (i : Nat) (f : Evn → RE Bool) (ρ : Evn) : mBorB i f ρ = f (freeze i ρ) := nr rfl
@[simp] theorem e_mItems (f : Evn → RE PyData) (ρ : Evn) : mItems f ρ = (f ρ).bind fun d => ofO (itemsOf d) := nr rfl
@[simp] theorem e_mWk (g : List PyData → Option (List PyData)) (fa : Evn → RE (List PyData)) (ρ : Evn) : mWk g fa ρ = (fa ρ).bind fun ds => ofO (g ds) := nr rfl
@[simp] theorem e_mRev (f : Evn → RE PyData) (ρ : Evn) : mRev f ρ = (f ρ).bind fun d => ofO (rev1 d) := nr rfl
@[simp] theorem e_mYes (ρ : Evn) : mYes ρ = .ok true := nr rfl
@[simp] theorem e_mLc (g : Evn → RE (List PyData)) (m : PyData → Evn → Option Evn) (t : Evn → RE Bool) (e : Evn → RE PyData) (vs : List Nat) (ρ : Evn) : mLc g m t e vs ρ = (g ρ).bind fun ds => if ds.length ≤ sizeLine then lcM m t e (wipeE ρ vs) ds else .bad := nr rfl
@[simp] theorem e_gN (i : Nat) (d : PyData) (ρ : Evn) : gN i d ρ = some (stE ρ i (.val d)) := by rw [← set_stE]; rfl
@[simp] theorem e_gE (ρ : Evn) : gE [] ρ = some ρ := nr rfl
@[simp] theorem e_gC (m : PyData → Evn → Option Evn) (ms : List PyData → Evn → Option Evn) (d : PyData) (r : List PyData) (ρ : Evn) : gC m ms (d :: r) ρ = (m d ρ).bind (ms r) := nr rfl
@[simp] theorem e_gTt (n : Nat) (ms : List PyData → Evn → Option Evn) (ds : List PyData) (ρ : Evn) : gT n ms (.tuple ds) ρ = if ds.length = n then ms ds ρ else none := nr rfl
@[simp] theorem e_gTl (n : Nat) (ms : List PyData → Evn → Option Evn) (ds : List PyData) (ρ : Evn) : gT n ms (.list ds) ρ = if ds.length = n then ms ds ρ else none := nr rfl
@[simp] theorem e_sNx (ρ : Evn) : sNx ρ = .ok (.nx, ρ) := nr rfl
@[simp] theorem e_sThen (f g : Evn → RS) (ρ : Evn) : sThen f g ρ = (f ρ).bind fun p => match p.1 with | .nx => g p.2 | _ => .ok p := nr rfl
@[simp] theorem e_sDrop (f : Evn → RE PyData) (ρ : Evn) : sDrop f ρ = ((f ρ).at ρ).bind fun _ => .ok (.nx, ρ) := nr rfl
@[simp] theorem e_sRet (f : Evn → RE PyData) (ρ : Evn) : sRet f ρ = ((f ρ).at ρ).bind fun d => .ok (.rt d, ρ) := nr rfl
@[simp] theorem e_sSet (i : Nat) (f : Evn → RE PyData) (ρ : Evn) : sSet i f ρ = ((f ρ).at ρ).bind fun d => .ok (.nx, stE ρ i (.val d)) := by simp only [← set_stE]; rfl
@[simp] theorem e_sIf (c : Evn → RE Bool) (f g : Evn → RS) (ρ : Evn) : sIf c f g ρ = ((c ρ).at ρ).bind fun b => if b then f ρ else g ρ := nr rfl
@[simp] theorem e_sFor (g : Evn → RE (List PyData)) (m : PyData → Evn → Option Evn) (body : Evn → RS) (ρ : Evn) : sFor g m body ρ = ((g ρ).at ρ).bind fun ds => forM m body ds ρ := nr rfl
@[simp] theorem e_sAsg (f : Evn → RE PyData) (m : PyData → Evn → Option Evn) (ρ : Evn) : sAsg f m ρ = ((f ρ).at ρ).bind fun d => (oS (m d ρ)).bind fun ρ' => .ok (.nx, ρ') := nr rfl
@[simp] theorem e_sPar (i j : Nat) (fa : Evn → RE (List PyData)) (ρ : Evn) : sPar i j fa ρ = ((fa ρ).at ρ).bind fun ds => match ds with
  | [d, e] => .ok (.nx, stE (stE ρ i (.val d)) j (.val e))
  | _ => .bad := by simp only [← set_stE]; rfl
@[simp] theorem e_sSetO (i : Nat) (f : Evn → RE (List PyData)) (ρ : Evn) : sSetO i f ρ = ((f ρ).at ρ).bind fun ds => .ok (.nx, stE ρ i (.own ds)) := by simp only [← set_stE]; rfl
@[simp] theorem e_sSetL (i : Nat) (f : Evn → RE (List PyData)) (ρ : Evn) : sSetL i f ρ = ((f ρ).at ρ).bind fun ds => .ok (.nx, stE ρ i (.val (.list ds))) := by simp only [← set_stE]; rfl
@[simp] theorem e_ownAt (i : Nat) (ρ : Evn) : ownAt i ρ = gtO ρ i := ownAt_gtO i ρ
@[simp] theorem e_freeze (i : Nat) (ρ : Evn) : freeze i ρ = fzE ρ i := fz_eq i ρ
@[simp] theorem e_sApp (i : Nat) (f : Evn → RE PyData) (ρ : Evn) : sApp i f ρ = (oS (gtO ρ i)).bind fun ds => ((f ρ).at ρ).bind fun d => if ds.length < sizeLine then .ok (.nx, stE ρ i (.own (ds ++ [d]))) else .bad := by
  rw [← ownAt_gtO]; simp only [← set_stE]; unfold sApp; cases ownAt i ρ <;> rfl
@[simp] theorem e_sSetIx (i : Nat) (fk fe : Evn → RE PyData) (ρ : Evn) : sSetIx i fk fe ρ = (oS (gtO ρ i)).bind fun ds => ((fe ρ).at ρ).bind fun d => ((fk ρ).at ρ).bind fun k => (oS (setD ds k d)).bind fun es => .ok (.nx, stE ρ i (.own es)) := by
  rw [← ownAt_gtO]; simp only [← set_stE]; unfold sSetIx; cases ownAt i ρ <;> rfl
@[simp] theorem e_sAugIx (i : Nat) (fk : Evn → RE PyData) (f : Int → Int → Int) (fe : Evn → RE PyData) (ρ : Evn) : sAugIx i fk f fe ρ = (oS (gtO ρ i)).bind fun ds => ((fk ρ).at ρ).bind fun k => (oS (pIdx (.list ds) k)).bind fun old => ((fe ρ).at ρ).bind fun d => (oS ((iOp f old d).bind (setD ds k))).bind fun es => .ok (.nx, stE ρ i (.own es)) := by
  rw [← ownAt_gtO]; simp only [← set_stE]; unfold sAugIx; cases ownAt i ρ <;> rfl
@[simp] theorem e_sAug (i : Nat) (g : PyData → PyData → Option PyData) (f : Evn → RE PyData) (ρ : Evn) : sAug i g f ρ = ((gtE ρ i).at ρ).bind fun d => ((f ρ).at ρ).bind fun e => (oS (g d e)).bind fun r => .ok (.nx, stE ρ i (.val r)) := by
  rw [← e_mGet]; simp only [← set_stE]; unfold sAug mGet
  rcases ρ[i]? with _ | _ | ⟨_ | _ | _⟩ <;> rfl
@[simp] theorem e_sPop (i : Nat) (ρ : Evn) : sPop i ρ = (oS (gtO ρ i)).bind fun ds => (oS ds.getLast?).bind fun _ => .ok (.nx, stE ρ i (.own ds.dropLast)) := by
  rw [← ownAt_gtO]; simp only [← set_stE]; unfold sPop; cases ownAt i ρ <;> rfl
@[simp] theorem e_sPopTo (i j : Nat) (ρ : Evn) : sPopTo i j ρ = (oS (gtO ρ i)).bind fun ds => (oS ds.getLast?).bind fun d => .ok (.nx, stE (stE ρ i (.own ds.dropLast)) j (.val d)) := by
  rw [← ownAt_gtO]; simp only [← set_stE]; unfold sPopTo; cases ownAt i ρ <;> rfl
@[simp] theorem e_fnM (n N : Nat) (body : Evn → RS) (ds : List PyData) : fnM n N body ds = if ds.length = n then bodyOut (body (startE N ds)) else .bad := nr rfl
@[simp] theorem e_bo_rt (d : PyData) (ρ : Evn) : bodyOut (.ok (.rt d, ρ)) = .ok d := nr rfl
@[simp] theorem e_bo_nx (ρ : Evn) : bodyOut (.ok (.nx, ρ)) = .ok .none := nr rfl
@[simp] theorem e_bo_exc (c : Str) (ρ : Evn) : bodyOut (.exc c ρ) = .exc c () := nr rfl
@[simp] theorem e_startE (N : Nat) (ds : List PyData) : startE N ds = ds.map (fun d => some (.val d)) ++ List.replicate (N - ds.length) none := nr rfl
@[simp] theorem e_wipe0 (ρ : Evn) : wipeE ρ [] = ρ := nr rfl
@[simp] theorem e_wipe1 (ρ : Evn) (v : Nat) (vs : List Nat) : wipeE ρ (v :: vs) = clE (wipeE ρ vs) v := by rw [← set_clE]; exact id rfl
/-! operators on data -/
@[simp] theorem d_add (i j : Int) : pAdd (.int i) (.int j) = some (.int (i + j)) := nr rfl
@[simp] theorem d_addib (i : Int) (b : Bool) : pAdd (.int i) (.bool b) = some (.int (i + PyProof.Rows.b2i b)) := nr rfl
@[simp] theorem d_addl (xs ys : List PyData) : pAdd (.list xs) (.list ys) = if xs.length + ys.length ≤ sizeLine then some (.list (xs ++ ys)) else none := nr rfl
@[simp] theorem d_addt (xs ys : List PyData) : pAdd (.tuple xs) (.tuple ys) = if xs.length + ys.length ≤ sizeLine then some (.tuple (xs ++ ys)) else none := nr rfl
@[simp] theorem d_sub (i j : Int) : pSub (.int i) (.int j) = some (.int (i - j)) := nr rfl
@[simp] theorem d_mul (i j : Int) : pMul (.int i) (.int j) = if mulOk i j then some (.int (i * j)) else none := nr rfl
@[simp] theorem d_div (i j : Int) : pDiv (.int i) (.int j) = if divOk j then some (.int (i.fdiv j)) else none := nr rfl
@[simp] theorem d_mod (i j : Int) : pMod (.int i) (.int j) = if j ≠ 0 then some (.int (i.fmod j)) else none := nr rfl
@[simp] theorem d_pow (i j : Int) : pPow (.int i) (.int j) = if powOk i j then some (.int (i ^ j.toNat)) else none := nr rfl
@[simp] theorem d_cmp (p : Int → Int → Bool) (i j : Int) : pCmp p (.int i) (.int j) = some (.bool (p i j)) := nr rfl
@[simp] theorem d_neg (i : Int) : pNeg (.int i) = some (.int (-i)) := nr rfl
@[simp] theorem d_not (b : Bool) : pNot (.bool b) = some (.bool !b) := nr rfl
@[simp] theorem d_iadd (i j : Int) : pIAdd (.int i) (.int j) = some (.int (i + j)) := nr rfl
@[simp] theorem d_iop (f : Int → Int → Int) (i j : Int) : iOp f (.int i) (.int j) = some (.int (f i j)) := nr rfl
@[simp] theorem d_toB (b : Bool) : toB (.bool b) = some b := nr rfl
@[simp] theorem d_toI (i : Int) : toI (.int i) = some i := nr rfl
@[simp] theorem d_trB (b : Bool) : truth (.bool b) = some b := nr rfl
@[simp] theorem d_trI (i : Int) : truth (.int i) = some (i != 0) := nr rfl
@[simp] theorem d_trN : truth .none = some false := nr rfl
@[simp] theorem d_trL (xs : List PyData) : truth (.list xs) = some (!xs.isEmpty) := nr rfl
@[simp] theorem d_trT (xs : List PyData) : truth (.tuple xs) = some (!xs.isEmpty) := nr rfl
@[simp] theorem d_lenL (xs : List PyData) : bLen [.list xs] = some (.int xs.length) := nr rfl
@[simp] theorem d_lenT (xs : List PyData) : bLen [.tuple xs] = some (.int xs.length) := nr rfl
@[simp] theorem d_intI (i : Int) : bInt [.int i] = some (.int i) := nr rfl
@[simp] theorem d_intB (b : Bool) : bInt [.bool b] = some (.int (if b then 1 else 0)) := nr rfl
@[simp] theorem d_abs (i : Int) : bAbs [.int i] = some (.int (if i < 0 then -i else i)) := nr rfl
@[simp] theorem d_gcd (a b : Int) : bGcd [.int a, .int b] = some (.int ((Nat.gcd a.natAbs b.natAbs : Nat) : Int)) := nr rfl
@[simp] theorem d_max2 (i j : Int) : bMax [.int i, .int j] = some (.int (if j > i then j else i)) := nr rfl
@[simp] theorem d_min2 (i j : Int) : bMin [.int i, .int j] = some (.int (if j < i then j else i)) := nr rfl
@[simp] theorem d_sumI (ns : List Int) : bSum [.list (ns.map .int)] = some (.int ns.sum) := by simp only [bSum, ints?_map, Option.map_some]
@[simp] theorem d_anyB (ns : List Bool) : bAny [.list (ns.map .bool)] = some (.bool (ns.any id)) := by simp only [bAny, bools?_map, Option.map_some]
@[simp] theorem d_allB (ns : List Bool) : bAll [.list (ns.map .bool)] = some (.bool (ns.all id)) := by simp only [bAll, bools?_map, Option.map_some]
@[simp] theorem d_maxL (ns : List Int) : bMax [.list (ns.map .int)] = (lmax ns).map .int := by cases ns <;> simp only [bMax, ints?_map, Option.bind_some]
@[simp] theorem d_minL (ns : List Int) : bMin [.list (ns.map .int)] = (lmin ns).map .int := by cases ns <;> simp only [bMin, ints?_map, Option.bind_some]
@[simp] theorem d_listL (xs : List PyData) : bList [.list xs] = some (.list xs) := nr rfl
@[simp] theorem d_listT (xs : List PyData) : bList [.tuple xs] = some (.list xs) := nr rfl
@[simp] theorem d_tupL (xs : List PyData) : bTuple [.list xs] = some (.tuple xs) := nr rfl
@[simp] theorem d_tupT (xs : List PyData) : bTuple [.tuple xs] = some (.tuple xs) := nr rfl
@[simp] theorem d_idxL (ds : List PyData) (i : Int) : pIdx (.list ds) (.int i) = L2.atI ds i := nr rfl
@[simp] theorem d_idxT (ds : List PyData) (i : Int) : pIdx (.tuple ds) (.int i) = L2.atI ds i := nr rfl
@[simp] theorem d_lstL (ds : List PyData) : pLst (.list ds) = .ok ds := nr rfl
@[simp] theorem d_lstT (ds : List PyData) : pLst (.tuple ds) = .ok ds := nr rfl
@[simp] theorem d_revL (ds : List PyData) : pRevL (.list ds) = .ok ds.reverse := nr rfl
@[simp] theorem d_itL (ds : List PyData) : itemsOf (.list ds) = some ds := nr rfl
@[simp] theorem d_itT (ds : List PyData) : itemsOf (.tuple ds) = some ds := nr rfl
@[simp] theorem d_rng1 (j : Int) : rng1 [.int j] = if r62 j then some (rangeL 0 j.toNat) else none := nr rfl
@[simp] theorem d_rng2 (i j : Int) : rng2 [.int i, .int j] = if r62 i ∧ r62 j then some (rangeL i (j - i).toNat) else none := nr rfl
@[simp] theorem d_enum1 (ds : List PyData) : enum1 [.list ds] = some (enumL 0 ds) := nr rfl
@[simp] theorem d_zip2 (ds es : List PyData) : zip2 [.list ds, .list es] = some (zipL ds es) := nr rfl
@[simp] theorem d_rev1L (ds : List PyData) : rev1 (.list ds) = some ds.reverse := nr rfl
@[simp] theorem d_rev1T (ds : List PyData) : rev1 (.tuple ds) = some ds.reverse := nr rfl
@[simp] theorem d_cutL (ds : List PyData) (lo hi : Option Int) : pCut (.list ds) lo hi = some (.list (cutA ds lo hi)) := nr rfl
@[simp] theorem d_cutT (ds : List PyData) (lo hi : Option Int) : pCut (.tuple ds) lo hi = some (.tuple (cutA ds lo hi)) := nr rfl
@[simp] theorem d_rep (ds : List PyData) (k : Int) : pRep ds (.int k) = if repOk ds.length k then .ok (List.replicate k.toNat ds).flatten else .bad := nr rfl
@[simp] theorem d_mTup (ds : List PyData) : mTup ds = if ds.length ≤ sizeLine then .ok (.tuple ds) else .bad := nr rfl
@[simp] theorem d_mLst (ds : List PyData) : mLst ds = if ds.length ≤ sizeLine then .ok (.list ds) else .bad := nr rfl
@[simp] theorem d_setD (ds : List PyData) (j : Int) (d : PyData) : setD ds (.int j) d = (L2.ixN ds.length j).map fun n => ds.set n d := nr rfl
@[simp] theorem d_scN : scal .none = true := nr rfl
@[simp] theorem d_scB (b : Bool) : scal (.bool b) = true := nr rfl
@[simp] theorem d_scI (i : Int) : scal (.int i) = true := nr rfl
@[simp] theorem d_scS (x : Str) : scal (.str x) = true := nr rfl
@[simp] theorem d_isN (d : PyData) : pIsN d .none = some (.bool (isNone d)) := nr rfl
@[simp] theorem d_isNN (d : PyData) : pIsNotN d .none = some (.bool (!isNone d)) := nr rfl
@[simp] theorem d_nN : isNone .none = true := nr rfl
@[simp] theorem d_nB (b : Bool) : isNone (.bool b) = false := nr rfl
@[simp] theorem d_nI (i : Int) : isNone (.int i) = false := nr rfl
@[simp] theorem d_nS (x : Str) : isNone (.str x) = false := nr rfl
@[simp] theorem d_nL (x : List PyData) : isNone (.list x) = false := nr rfl
@[simp] theorem d_nT (x : List PyData) : isNone (.tuple x) = false := nr rfl
/-! guards -/
theorem mulOk_r {i j : Int} (h1 : -(2 ^ 64) < j) (h2 : j < 2 ^ 64) : mulOk i j := .inr (.inl ⟨h1, h2⟩)
theorem mulOk_l {i j : Int} (h1 : -(2 ^ 64) < i) (h2 : i < 2 ^ 64) : mulOk i j := .inl ⟨h1, h2⟩
theorem divOk_s {j : Int} (h1 : 0 < j) (h2 : j < 2 ^ 64) : divOk j := by
  refine ⟨by omega, ?_⟩
  have h3 : j.natAbs < 2 ^ 64 := by omega
  have h4 := (Nat.log2_lt (by omega)).mpr h3
  omega
theorem r62_s {j : Int} (h1 : -(2 ^ 62) ≤ j) (h2 : j < 2 ^ 62) : r62 j := ⟨h1, h2⟩
theorem line_eq : (sizeLine : Nat) = 16777216 := sizeLine_eq
theorem fmod_pos {i j : Int} (h : 0 < j) : i.fmod j = i % j := Int.fmod_eq_emod_of_nonneg i (by omega)
theorem fdiv_pos {i j : Int} (h : 0 < j) : i.fdiv j = i / j := Int.fdiv_eq_ediv_of_nonneg i (by omega)
theorem atI_ok {α : Type} {xs : List α} {i : Int} {v : α} (h0 : 0 ≤ i) (h : xs[i.toNat]? = some v) : L2.atI xs i = some v := by
  have e : ((i.toNat : Nat) : Int) = i := by omega
  rw [← e]
  exact L2.atI_nat h
/-! loops -/
theorem forM_nil (m : PyData → Evn → Option Evn) (body : Evn → RS) (ρ : Evn) : forM m body [] ρ = .ok (.nx, ρ) := rfl
theorem forM_cons (m : PyData → Evn → Option Evn) (body : Evn → RS) (d : PyData) (r : List PyData) (ρ : Evn) : forM m body (d :: r) ρ = (oS (m d ρ)).bind fun ρ1 => (body ρ1).bind fun p => match p.1 with
    | .nx => forM m body r p.2
    | .ct => forM m body r p.2
    | .bk => .ok (.nx, p.2)
    | .rt d => .ok (.rt d, p.2) := rfl
/-- a loop that goes on, by what holds between two turns -/
theorem forM_inv {m : PyData → Evn → Option Evn} {body : Evn → RS} (I : Nat → Evn → Prop) {ds : List PyData} {ρ : Evn} (h0 : I 0 ρ)
    (h : ∀ i d ρ, ds[i]? = some d → I i ρ → ∃ ρ1 ρ2, m d ρ = some ρ1 ∧ (body ρ1 = .ok (.nx, ρ2) ∨ body ρ1 = .ok (.ct, ρ2)) ∧ I (i + 1) ρ2) : ∃ ρ', forM m body ds ρ = .ok (.nx, ρ') ∧ I ds.length ρ' := by
  have key : ∀ (es : List PyData) (k : Nat) (ρ : Evn), k + es.length = ds.length → (∀ i, es[i]? = ds[k + i]?) → I k ρ → ∃ ρ', forM m body es ρ = .ok (.nx, ρ') ∧ I ds.length ρ' := by
    intro es
    induction es with
    | nil =>
      intro k ρ e _ hi
      simp only [List.length_nil, Nat.add_zero] at e
      subst e
      exact ⟨ρ, rfl, hi⟩
    | cons d r ih =>
      intro k ρ e he hi
      have h1 := he 0
      simp only [List.getElem?_cons_zero, Nat.add_zero] at h1
      obtain ⟨ρ1, ρ2, g1, g2, g3⟩ := h k d ρ h1.symm hi
      obtain ⟨ρ', g4, g5⟩ := ih (k + 1) ρ2 (by rw [List.length_cons] at e; omega) (fun i => by
        have := he (i + 1)
        simp only [List.getElem?_cons_succ] at this
        rw [this]
        congr 1
        omega) g3
      refine ⟨ρ', ?_, g5⟩
      rw [forM_cons, g1, oS_some, bind_ok]
      cases g2 with
      | inl g => rw [g, bind_ok]; exact g4
      | inr g => rw [g, bind_ok]; exact g4
  exact key ds 0 ρ (by omega) (fun i => by rw [Nat.zero_add]) h0
/-- a loop over what is made of a list, with a state -/
theorem forM_map {α : Type} {m : PyData → Evn → Option Evn} {body : Evn → RS} {dec : α → PyData} (I : List α → Evn → Prop) {xs : List α} {ρ : Evn} (h0 : I [] ρ)
    (h : ∀ pre x post ρ, xs = pre ++ x :: post → I pre ρ → ∃ ρ1 ρ2, m (dec x) ρ = some ρ1 ∧ (body ρ1 = .ok (.nx, ρ2) ∨ body ρ1 = .ok (.ct, ρ2)) ∧ I (pre ++ [x]) ρ2) : ∃ ρ', forM m body (xs.map dec) ρ = .ok (.nx, ρ') ∧ I xs ρ' := by
  have key : ∀ (es pre : List α) (ρ : Evn), xs = pre ++ es → I pre ρ → ∃ ρ', forM m body (es.map dec) ρ = .ok (.nx, ρ') ∧ I xs ρ' := by
    intro es
    induction es with
    | nil => intro pre ρ e hi; rw [List.append_nil] at e; subst e; exact ⟨ρ, rfl, hi⟩
    | cons x r ih =>
      intro pre ρ e hi
      obtain ⟨ρ1, ρ2, g1, g2, g3⟩ := h pre x r ρ e hi
      obtain ⟨ρ', g4, g5⟩ := ih (pre ++ [x]) ρ2 (by rw [e, List.append_assoc]; rfl) g3
      refine ⟨ρ', ?_, g5⟩
      rw [List.map_cons, forM_cons, g1, oS_some, bind_ok]
      cases g2 with
      | inl g => rw [g, bind_ok]; exact g4
      | inr g => rw [g, bind_ok]; exact g4
  exact key xs [] ρ rfl h0
theorem rangeL_get {lo : Int} {n i : Nat} {d : PyData} (h : (rangeL lo n)[i]? = some d) : i < n ∧ d = .int (lo + i) := by
  unfold rangeL at h
  rw [List.getElem?_map] at h
  by_cases hi : i < n
  · rw [List.getElem?_range hi] at h
    simp only [Option.map_some, Option.some.injEq] at h
    exact ⟨hi, h.symm⟩
  · rw [List.getElem?_eq_none (by rw [List.length_range]; omega)] at h
    cases h
/-- a loop over the whole numbers of a range -/
theorem forM_rng {m : PyData → Evn → Option Evn} {body : Evn → RS} {lo : Int} {n : Nat} (I : Nat → Evn → Prop) {ρ : Evn} (h0 : I 0 ρ)
    (h : ∀ i ρ, i < n → I i ρ → ∃ ρ1 ρ2, m (.int (lo + i)) ρ = some ρ1 ∧ (body ρ1 = .ok (.nx, ρ2) ∨ body ρ1 = .ok (.ct, ρ2)) ∧ I (i + 1) ρ2) : ∃ ρ', forM m body (rangeL lo n) ρ = .ok (.nx, ρ') ∧ I n ρ' := by
  have := forM_inv (m := m) (body := body) I (ds := rangeL lo n) h0 (fun i d ρ hd hi => by
    obtain ⟨h1, h2⟩ := rangeL_get hd
    subst h2
    exact h i ρ h1 hi)
  rw [rangeL_len] at this
  exact this
/-- a list made of a list -/
theorem lcM_map {α : Type} {m : PyData → Evn → Option Evn} {t : Evn → RE Bool} {e : Evn → RE PyData} {ρ : Evn} {dec : α → PyData} (p : α → Bool) (f : α → PyData) : ∀ {xs : List α},
    (∀ x ∈ xs, ∃ ρ1, m (dec x) ρ = some ρ1 ∧ t ρ1 = .ok (p x) ∧ (p x = true → e ρ1 = .ok (f x))) → lcM m t e ρ (xs.map dec) = .ok ((xs.filter p).map f)
  | [], _ => rfl
  | x :: r, h => by
    obtain ⟨ρ1, h1, h2, h3⟩ := h x (List.mem_cons_self ..)
    have ih := lcM_map p f (xs := r) (fun y hy => h y (List.mem_cons_of_mem _ hy))
    rw [List.map_cons]
    unfold lcM
    rw [h1, ofO_some, bind_ok, h2, nox_okk, bind_ok, ih]
    cases hp : p x with
    | true => rw [if_pos rfl, h3 hp, nox_okk, bind_ok, bind_ok, List.filter_cons_of_pos hp, List.map_cons]
    | false => rw [if_neg (by decide), List.filter_cons_of_neg (by rw [hp]; decide)]
/-- .. of each item -/
theorem lcM_all {α : Type} {m : PyData → Evn → Option Evn} {e : Evn → RE PyData} {ρ : Evn} {dec : α → PyData} (f : α → PyData) {xs : List α}
    (h : ∀ x ∈ xs, ∃ ρ1, m (dec x) ρ = some ρ1 ∧ e ρ1 = .ok (f x)) : lcM m mYes e ρ (xs.map dec) = .ok (xs.map f) := by
  have := lcM_map (m := m) (t := mYes) (e := e) (ρ := ρ) (dec := dec) (fun _ => true) f (xs := xs) (fun x hx => by
    obtain ⟨ρ1, h1, h2⟩ := h x hx
    exact ⟨ρ1, h1, rfl, fun _ => h2⟩)
  rw [this, List.filter_eq_self.mpr (fun _ _ => rfl)]
theorem lcM_rng {i : Nat} {e : Evn → RE PyData} {ρ : Evn} {n : Nat} (f : Nat → PyData) (h : ∀ k < n, e (stE ρ i (.val (.int k))) = .ok (f k)) : lcM (gN i) mYes e ρ (rangeL 0 n) = .ok ((List.range n).map f) := by
  unfold rangeL
  refine lcM_all (dec := fun (k : Nat) => PyData.int (0 + (k : Int))) f fun x hx => ⟨_, e_gN _ _ _, ?_⟩
  rw [Int.zero_add]
  exact h x (List.mem_range.mp hx)
theorem lcM_rngp {i : Nat} {t : Evn → RE Bool} {e : Evn → RE PyData} {ρ : Evn} {n : Nat} (p : Nat → Bool) (f : Nat → PyData) (ht : ∀ k < n, t (stE ρ i (.val (.int k))) = .ok (p k)) (h : ∀ k < n, p k = true → e (stE ρ i (.val (.int k))) = .ok (f k)) : lcM (gN i) t e ρ (rangeL 0 n) = .ok (((List.range n).filter p).map f) := by
  unfold rangeL
  refine lcM_map (dec := fun (k : Nat) => PyData.int (0 + (k : Int))) p f fun x hx => ⟨_, e_gN _ _ _, ?_, fun hp => ?_⟩
  · rw [Int.zero_add]; exact ht x (List.mem_range.mp hx)
  · rw [Int.zero_add]; exact h x (List.mem_range.mp hx) hp
/-! steps of a body -/
theorem fn_go {n N : Nat} {b : Evn → RS} {ds : List PyData} (h : ds.length = n) : fnM n N b ds = bodyOut (b (startE N ds)) := by rw [e_fnM, if_pos h]
theorem fn_ret {n N : Nat} {b : Evn → RS} {ds : List PyData} {ρ ρ' : Evn} {d : PyData} (h : ds.length = n) (e : startE N ds = ρ) (hb : b ρ = .ok (.rt d, ρ')) : fnM n N b ds = .ok d := by rw [fn_go h, e, hb]; rfl
theorem st_set {i : Nat} {f : Evn → RE PyData} {g : Evn → RS} {ρ : Evn} {d : PyData} (h : f ρ = .ok d) : sThen (sSet i f) g ρ = g (stE ρ i (.val d)) := by simp [h]
theorem st_setL {i : Nat} {f : Evn → RE (List PyData)} {g : Evn → RS} {ρ : Evn} {ds : List PyData} (h : f ρ = .ok ds) : sThen (sSetL i f) g ρ = g (stE ρ i (.val (.list ds))) := by simp [h]
theorem st_setO {i : Nat} {f : Evn → RE (List PyData)} {g : Evn → RS} {ρ : Evn} {ds : List PyData} (h : f ρ = .ok ds) : sThen (sSetO i f) g ρ = g (stE ρ i (.own ds)) := by simp [h]
theorem st_if {c : Evn → RE Bool} {a b g : Evn → RS} {ρ : Evn} {q : Bool} (h : c ρ = .ok q) : sThen (sIf c a b) g ρ = if q then sThen a g ρ else sThen b g ρ := by cases q <;> simp [h]
theorem st_no {c : Evn → RE Bool} {a g : Evn → RS} {ρ : Evn} (h : c ρ = .ok false) : sThen (sIf c a sNx) g ρ = g ρ := by simp [h]
theorem st_yes {c : Evn → RE Bool} {f : Evn → RE PyData} {b g : Evn → RS} {ρ : Evn} {d : PyData} (h : c ρ = .ok true) (hf : f ρ = .ok d) : sThen (sIf c (sRet f) b) g ρ = .ok (.rt d, ρ) := by simp [h, hf]
theorem st_nx {f g : Evn → RS} {ρ ρ' : Evn} (h : f ρ = .ok (.nx, ρ')) : sThen f g ρ = g ρ' := by simp [h]
theorem st_ret {f : Evn → RE PyData} {ρ : Evn} {d : PyData} (h : f ρ = .ok d) : sRet f ρ = .ok (.rt d, ρ) := by simp [h]
/-! whole numbers in lists -/
abbrev li (ns : List Int) : PyData := .list (ns.map .int)
theorem atI_li {ns : List Int} {i : Int} (h0 : 0 ≤ i) (h1 : i < ns.length) : L2.atI (ns.map PyData.int) i = some (.int (ns.getD i.toNat 0)) := by
  refine atI_ok h0 ?_
  rw [List.getElem?_map, List.getElem?_eq_getElem (by omega), Option.map_some, List.getD_eq_getElem?_getD, List.getElem?_eq_getElem (by omega), Option.getD_some]

/-! kinds -/
@[simp] theorem ty_li_none : isTy Ty.list .none = false := nr rfl
@[simp] theorem ty_li_bool (b : Bool) : isTy Ty.list (.bool b) = false := nr rfl
@[simp] theorem ty_li_int (i : Int) : isTy Ty.list (.int i) = false := nr rfl
@[simp] theorem ty_li_str (x : Str) : isTy Ty.list (.str x) = false := nr rfl
@[simp] theorem ty_li_list (xs : List PyData) : isTy Ty.list (.list xs) = true := nr rfl
@[simp] theorem ty_li_tuple (xs : List PyData) : isTy Ty.list (.tuple xs) = false := nr rfl
@[simp] theorem ty_tu_none : isTy Ty.tuple .none = false := nr rfl
@[simp] theorem ty_tu_bool (b : Bool) : isTy Ty.tuple (.bool b) = false := nr rfl
@[simp] theorem ty_tu_int (i : Int) : isTy Ty.tuple (.int i) = false := nr rfl
@[simp] theorem ty_tu_str (x : Str) : isTy Ty.tuple (.str x) = false := nr rfl
@[simp] theorem ty_tu_list (xs : List PyData) : isTy Ty.tuple (.list xs) = false := nr rfl
@[simp] theorem ty_tu_tuple (xs : List PyData) : isTy Ty.tuple (.tuple xs) = true := nr rfl
@[simp] theorem ty_bo_none : isTy Ty.bool .none = false := nr rfl
@[simp] theorem ty_bo_bool (b : Bool) : isTy Ty.bool (.bool b) = true := nr rfl
@[simp] theorem ty_bo_int (i : Int) : isTy Ty.bool (.int i) = false := nr rfl
@[simp] theorem ty_bo_str (x : Str) : isTy Ty.bool (.str x) = false := nr rfl
@[simp] theorem ty_bo_list (xs : List PyData) : isTy Ty.bool (.list xs) = false := nr rfl
@[simp] theorem ty_bo_tuple (xs : List PyData) : isTy Ty.bool (.tuple xs) = false := nr rfl
@[simp] theorem ty_in_none : isTy Ty.int .none = false := nr rfl
@[simp] theorem ty_in_bool (b : Bool) : isTy Ty.int (.bool b) = true := nr rfl
@[simp] theorem ty_in_int (i : Int) : isTy Ty.int (.int i) = true := nr rfl
@[simp] theorem ty_in_str (x : Str) : isTy Ty.int (.str x) = false := nr rfl
@[simp] theorem ty_in_list (xs : List PyData) : isTy Ty.int (.list xs) = false := nr rfl
@[simp] theorem ty_in_tuple (xs : List PyData) : isTy Ty.int (.tuple xs) = false := nr rfl
@[simp] theorem ty_st_none : isTy Ty.str .none = false := nr rfl
@[simp] theorem ty_st_bool (b : Bool) : isTy Ty.str (.bool b) = false := nr rfl
@[simp] theorem ty_st_int (i : Int) : isTy Ty.str (.int i) = false := nr rfl
@[simp] theorem ty_st_str (x : Str) : isTy Ty.str (.str x) = true := nr rfl
@[simp] theorem ty_st_list (xs : List PyData) : isTy Ty.str (.list xs) = false := nr rfl
@[simp] theorem ty_st_tuple (xs : List PyData) : isTy Ty.str (.tuple xs) = false := nr rfl
/-! likeness of data that have a type -/
open PySem.W in
theorem eq_dat {α : Type} [DecidableEq α] [Datum α] (hd : Datum.depth α ≤ 64) (a b : α) : pEq (Datum.toD a) (Datum.toD b) = some (.bool (decide (a = b))) := by
  unfold pEq
  rw [if_pos (show eqOk _ _ from Or.inl (Nat.le_trans (Datum.depth_le a) hd)), Datum.eqv]
open PySem.W in
theorem ne_dat {α : Type} [DecidableEq α] [Datum α] (hd : Datum.depth α ≤ 64) (a b : α) : pNe (Datum.toD a) (Datum.toD b) = some (.bool (decide (a ≠ b))) := by
  unfold pNe
  rw [if_pos (show eqOk _ _ from Or.inl (Nat.le_trans (Datum.depth_le a) hd)), Datum.eqv]
  by_cases h : a = b <;> simp [h]
@[simp] theorem eq_int (i j : Int) : pEq (.int i) (.int j) = some (.bool (decide (i = j))) := eq_dat (α := Int) (by decide) i j
@[simp] theorem ne_int (i j : Int) : pNe (.int i) (.int j) = some (.bool (decide (i ≠ j))) := ne_dat (α := Int) (by decide) i j
@[simp] theorem eq_bl (i j : Bool) : pEq (.bool i) (.bool j) = some (.bool (decide (i = j))) := eq_dat (α := Bool) (by decide) i j
@[simp] theorem ne_bl (i j : Bool) : pNe (.bool i) (.bool j) = some (.bool (decide (i ≠ j))) := ne_dat (α := Bool) (by decide) i j
@[simp] theorem eq_st (i j : Str) : pEq (.str i) (.str j) = some (.bool (decide (i = j))) := eq_dat (α := Str) (by decide) i j
@[simp] theorem ne_st (i j : Str) : pNe (.str i) (.str j) = some (.bool (decide (i ≠ j))) := ne_dat (α := Str) (by decide) i j
@[simp] theorem eq_li (i j : List Int) : pEq (.list (i.map .int)) (.list (j.map .int)) = some (.bool (decide (i = j))) := eq_dat (α := List Int) (by decide) i j
@[simp] theorem ne_li (i j : List Int) : pNe (.list (i.map .int)) (.list (j.map .int)) = some (.bool (decide (i ≠ j))) := ne_dat (α := List Int) (by decide) i j
/-- data without dicts, not deep -/
def plainD : Nat → PyData → Prop
  | 0, _ => False
  | _ + 1, .none => True
  | _ + 1, .bool _ => True
  | _ + 1, .int _ => True
  | _ + 1, .str _ => True
  | k + 1, .list xs => xs.length < 2 ^ 62 ∧ ∀ x ∈ xs, plainD k x
  | k + 1, .tuple xs => xs.length < 2 ^ 62 ∧ ∀ x ∈ xs, plainD k x
  | _ + 1, .dict _ => False
theorem plain_li {k : Nat} {ns : List Int} (h : ns.length < 2 ^ 62) : plainD (k + 2) (li ns) := ⟨by rw [List.length_map]; exact h, fun x hx => by
  obtain ⟨i, _, rfl⟩ := List.mem_map.mp hx
  trivial⟩

/-! lists of whole numbers made by comprehensions -/
theorem lcM_rngI {i : Nat} {e : Evn → RE PyData} {ρ : Evn} {n : Nat} (g : Nat → Int) (h : ∀ k < n, e (stE ρ i (.val (.int k))) = .ok (.int (g k))) : lcM (gN i) mYes e ρ (rangeL 0 n) = .ok (((List.range n).map g).map .int) := by
  rw [lcM_rng (fun k => .int (g k)) h, List.map_map]; rfl
theorem lcM_rngpI {i : Nat} {t : Evn → RE Bool} {e : Evn → RE PyData} {ρ : Evn} {n : Nat} (p : Nat → Bool) (g : Nat → Int) (ht : ∀ k < n, t (stE ρ i (.val (.int k))) = .ok (p k)) (h : ∀ k < n, p k = true → e (stE ρ i (.val (.int k))) = .ok (.int (g k))) : lcM (gN i) t e ρ (rangeL 0 n) = .ok ((((List.range n).filter p).map g).map .int) := by
  rw [lcM_rngp p (fun k => .int (g k)) ht h, List.map_map]; rfl
theorem lcM_liI {i : Nat} {e : Evn → RE PyData} {ρ : Evn} {ns : List Int} (g : Int → Int) (h : ∀ k ∈ ns, e (stE ρ i (.val (.int k))) = .ok (.int (g k))) : lcM (gN i) mYes e ρ (ns.map .int) = .ok ((ns.map g).map .int) := by
  rw [lcM_all (fun k => .int (g k)) (fun x hx => ⟨_, e_gN _ _ _, h x hx⟩), List.map_map]; rfl
theorem lcM_lip {i : Nat} {t : Evn → RE Bool} {e : Evn → RE PyData} {ρ : Evn} {ns : List Int} (p : Int → Bool) (f : Int → PyData) (ht : ∀ k ∈ ns, t (stE ρ i (.val (.int k))) = .ok (p k)) (h : ∀ k ∈ ns, p k = true → e (stE ρ i (.val (.int k))) = .ok (f k)) : lcM (gN i) t e ρ (ns.map .int) = .ok ((ns.filter p).map f) :=
  lcM_map p f fun x hx => ⟨_, e_gN _ _ _, ht x hx, h x hx⟩
theorem getD_rng {g : Nat → Int} {n i : Nat} {d : Int} (h : i < n) : ((List.range n).map g).getD i d = g i := by
  rw [List.getD_eq_getElem?_getD, List.getElem?_map, List.getElem?_range h]; rfl
theorem set_rng {α : Type} (g : Nat → α) (n j : Nat) (v : α) : ((List.range n).map g).set j v = (List.range n).map fun q => if q = j then v else g q := by
  apply List.ext_getElem?
  intro i
  rw [List.getElem?_set, List.getElem?_map, List.getElem?_map, List.length_map, List.length_range]
  by_cases h : j = i
  · subst h
    by_cases hj : j < n
    · rw [List.getElem?_range hj]; simp [hj]
    · rw [List.getElem?_eq_none (by rw [List.length_range]; omega)]; simp [hj]
  · rw [if_neg h]
    by_cases hi : i < n
    · rw [List.getElem?_range hi]; simp [Ne.symm h]
    · rw [List.getElem?_eq_none (by rw [List.length_range]; omega)]; rfl
theorem map_set_int (ns : List Int) (j : Nat) (v : Int) : (ns.map PyData.int).set j (.int v) = (ns.set j v).map .int := by rw [List.map_set]
theorem rep_rng (n : Nat) (v : Int) : (List.replicate n [PyData.int v]).flatten = ((List.range n).map fun _ => v).map .int := by
  induction n with
  | zero => rfl
  | succ n ih => rw [List.replicate_succ', List.flatten_append, ih, List.range_succ, List.map_append, List.map_append]; rfl
theorem ixN_ok {n : Nat} {i : Int} (h0 : 0 ≤ i) (h : i < n) : L2.ixN n i = some i.toNat := by
  unfold L2.ixN
  rw [if_pos h0, if_pos h]

/-! places in lists that are written out -/
@[simp] theorem at_0 {α : Type} (x : α) (r : List α) : L2.atI (x :: r) 0 = some x := atI_ok (by decide) rfl
@[simp] theorem at_1 {α : Type} (x y : α) (r : List α) : L2.atI (x :: y :: r) 1 = some y := atI_ok (by decide) rfl
@[simp] theorem at_2 {α : Type} (x y z : α) (r : List α) : L2.atI (x :: y :: z :: r) 2 = some z := atI_ok (by decide) rfl
@[simp] theorem at_3 {α : Type} (x y z u : α) (r : List α) : L2.atI (x :: y :: z :: u :: r) 3 = some u := atI_ok (by decide) rfl
@[simp] theorem at_4 {α : Type} (x y z u v : α) (r : List α) : L2.atI (x :: y :: z :: u :: v :: r) 4 = some v := atI_ok (by decide) rfl
@[simp] theorem at_5 {α : Type} (x y z u v w : α) (r : List α) : L2.atI (x :: y :: z :: u :: v :: w :: r) 5 = some w := atI_ok (by decide) rfl
open PySem.W in
theorem in_dat {α : Type} [DecidableEq α] [Datum α] (hd : Datum.depth α ≤ 60) (x : α) (xs : List α) : pIn (Datum.toD x) (.list (xs.map Datum.toD)) = some (.bool (decide (x ∈ xs))) := by
  have h : inOk (Datum.toD x) (xs.map Datum.toD) := Or.inl (Nat.le_trans (Datum.depth_le x) hd)
  have e : pIn (Datum.toD x) (.list (xs.map Datum.toD)) = if inOk (Datum.toD x) (xs.map Datum.toD) then some (.bool (inD (Datum.toD x) (xs.map Datum.toD))) else none := by
    cases Datum.toD x <;> rfl
  rw [e, if_pos h]
  unfold inD
  rw [any_datum]
open PySem.W in
theorem notin_dat {α : Type} [DecidableEq α] [Datum α] (hd : Datum.depth α ≤ 60) (x : α) (xs : List α) : pNotIn (Datum.toD x) (.list (xs.map Datum.toD)) = some (.bool (!decide (x ∈ xs))) := by
  have h : inOk (Datum.toD x) (xs.map Datum.toD) := Or.inl (Nat.le_trans (Datum.depth_le x) hd)
  have e : pNotIn (Datum.toD x) (.list (xs.map Datum.toD)) = if inOk (Datum.toD x) (xs.map Datum.toD) then some (.bool (!inD (Datum.toD x) (xs.map Datum.toD))) else none := by
    cases Datum.toD x <;> rfl
  rw [e, if_pos h]
  unfold inD
  rw [any_datum]
@[simp] theorem in_li (i : Int) (ns : List Int) : pIn (.int i) (.list (ns.map .int)) = some (.bool (decide (i ∈ ns))) := in_dat (α := Int) (by decide) i ns
@[simp] theorem notin_li (i : Int) (ns : List Int) : pNotIn (.int i) (.list (ns.map .int)) = some (.bool (!decide (i ∈ ns))) := notin_dat (α := Int) (by decide) i ns

/-! slices -/
theorem sIx_nn {n d : Nat} {i : Int} (h : 0 ≤ i) : HT.sIx n d (some i) = min i.toNat n := by
  show (if i < 0 then (i + (n : Int)).toNat else min i.toNat n) = min i.toNat n
  rw [if_neg (by omega)]
theorem take_min {α : Type} (xs : List α) (k m : Nat) (h : xs.length ≤ m) : xs.take (min k m) = xs.take k := by
  by_cases hk : k ≤ m
  · rw [Nat.min_eq_left hk]
  · rw [Nat.min_eq_right (by omega), List.take_of_length_le h, List.take_of_length_le (by omega)]
theorem cut_nn {α : Type} (xs : List α) {lo hi : Int} (h0 : 0 ≤ lo) (h1 : 0 ≤ hi) : cutA xs (some lo) (some hi) = (xs.drop lo.toNat).take (hi.toNat - lo.toNat) := by
  unfold cutA
  rw [sIx_nn h0, sIx_nn h1]
  by_cases h : lo.toNat ≤ xs.length
  · rw [Nat.min_eq_left h]
    by_cases h2 : hi.toNat ≤ xs.length
    · rw [Nat.min_eq_left h2]
    · rw [Nat.min_eq_right (show xs.length ≤ hi.toNat by omega), List.take_of_length_le (by rw [List.length_drop]; omega), List.take_of_length_le (by rw [List.length_drop]; omega)]
  · rw [Nat.min_eq_right (show xs.length ≤ lo.toNat by omega), List.drop_of_length_le (Nat.le_refl _), List.drop_of_length_le (by omega), List.take_nil, List.take_nil]
theorem cut_xn {α : Type} (xs : List α) {hi : Int} (h1 : 0 ≤ hi) : cutA xs none (some hi) = xs.take hi.toNat := by
  unfold cutA
  rw [HT.sIx_none, sIx_nn h1, List.drop_zero, Nat.sub_zero, take_min _ _ _ (Nat.le_refl _)]
theorem cut_nx {α : Type} (xs : List α) {lo : Int} (h0 : 0 ≤ lo) : cutA xs (some lo) none = xs.drop lo.toNat := by
  unfold cutA
  rw [HT.sIx_none, sIx_nn h0]
  by_cases h : lo.toNat ≤ xs.length
  · rw [Nat.min_eq_left h, List.take_of_length_le (by rw [List.length_drop]; exact Nat.le_refl _)]
  · rw [Nat.min_eq_right (show xs.length ≤ lo.toNat by omega), List.drop_of_length_le (Nat.le_refl _), List.drop_of_length_le (by omega), List.take_nil]
theorem cut_xx {α : Type} (xs : List α) : cutA xs none none = xs := by
  unfold cutA
  rw [HT.sIx_none, HT.sIx_none, List.drop_zero, Nat.sub_zero, List.take_length]

theorem atI_rng {α : Type} {f : Nat → α} {n k : Nat} (h : k < n) : L2.atI ((List.range n).map f) (k : Int) = some (f k) := atI_ok (by omega) (by rw [Int.toNat_natCast, List.getElem?_map, List.getElem?_range h]; rfl)
theorem atI_rngI {g : Nat → Int} {n k : Nat} (h : k < n) : L2.atI (((List.range n).map g).map PyData.int) (k : Int) = some (.int (g k)) := by rw [List.map_map]; exact atI_rng h
theorem atI_liN {ns : List Int} {k : Nat} (h1 : k < ns.length) : L2.atI (ns.map PyData.int) (k : Int) = some (.int (ns.getD k 0)) := by rw [atI_li (by omega) (by omega), Int.toNat_natCast]
end PV
end
section
set_option Elab.async false
set_option linter.all false
set_option maxRecDepth 100000
set_option maxHeartbeats 4000000
namespace PV
open PySem PySem.Spec PySem.Calls PyProof.Rows L2

/-! ### except clauses that name the error, as many as there are -/
/-- where such a suite leads: its name is gone -/
abbrev gonE (i : Nat) (D : Ends) : Ends := { nx := fun σ1 H1 => D.nx (σ1.set i none) H1, rt := D.rt, bk := fun σ1 H1 => D.bk (σ1.set i none) H1, ct := fun σ1 H1 => D.ct (σ1.set i none) H1 }
abbrev Hnd := Value × Nat × (Addr → Value → Option Addr → TS)
def wHs (K : PySem.W.Frag) (Wo : WX) (D : Ends) : List Hnd → WX
  | [] => Wo
  | (c, i, ts) :: r => fun q d σ H => ∃ b, PySem.W.exmOne K q c = some b ∧ (b = true → ∀ a, H a = none → ts a q d (gonE i D) (σ.set i (some (.ref a))) H) ∧ (b = false → wHs K Wo D r q d σ H)
inductive HsOk (X : Cx) : List ExceptHandler → List Hnd → Prop
  | nil : HsOk X [] []
  | cons {x n : Str} {c : Value} {i : Nat} {ts : Addr → Value → Option Addr → TS} {b0 : Stmt} {sts : List Stmt} {p1 p2 : Pos} {es : List ExceptHandler} {l : List Hnd} (hc : Names X x c) (hi : X.N[i]? = some n) (hl : X.env.kindOf n = some .local)
      (hsu : ∀ (a : Addr) (o : Obj) (q : Value) (d : Option Addr) (pn : List (Addr × Obj)), Zc q d o → (∃ vs, o.data = .fields vs) → PSs (X.suite a ((a, o) :: pn)) (b0 :: sts) (ts a q d)) (r : HsOk X es l) :
      HsOk X (.ExceptHandler (some (.Name x p1)) (some n) (b0 :: sts) p2 :: es) ((c, i, ts) :: l)
section
variable {X : Cx} {body : List Stmt} {e0 : ExceptHandler} {es : List ExceptHandler} {l : List Hnd} {pos : Pos} {tb : WX → TS} {Wo : WX}
theorem ps_tryN (h1 : X.stack = X.env :: X.outer) (h2 : X.env.frame = some X.env.locals) (nd : X.N.Nodup) (tk : Takes X Wo)
    (hb : ∀ (W : WX) (pn : List (Addr × Obj)) (xe : Value → Shared → Prop), Takes (X.tr pn xe) W → PassesOwn (model X.prog X.w) X.A X.env xe → PSs (X.tr pn xe) body (tb W))
    (hh : HsOk X (e0 :: es) l) : PS X (.Try body (e0 :: es) [] [] pos) (fun D σ H => tb (wHs X.K Wo D l) D σ H) := by
  refine ⟨fun pn0 s0 σ0 H0 D0 J0 q0 => ?_⟩
  have okX := J0.ok
  have frX : X.A.frames = some (X.env :: X.outer) := by rw [okX.frames, h1]
  refine wpAny_Try_except ?_
  have run := (hb (wHs X.K Wo D0 l) (X.pn ++ pn0) (fun u s₁ => wpAny (model X.prog X.w) X.A (noteFrame u X.env) (fun _ s₂ => wpAny (model X.prog X.w) X.A (setFlight u none) (fun _ s₃ =>
    wpAny (model X.prog X.w) X.A (handleBy u X.env (e0 :: es)) (SP X pn0 D0) X.xe s₃) X.xe s₂) X.xe s₁) (fun u s1 xx => ?_) PassesOwn.looking).run [] s0 σ0 H0 D0 (J0.toTry _) q0
  · refine wpAny_mono run (fun fl s1 out => ?_) (fun _ _ z => z)
    cases fl with
    | next =>
      obtain ⟨σ1, H1, J1, w1⟩ := out
      exact wpAny_execs_nil ⟨σ1, H1, J1.ofTry okX, w1⟩
    | brk =>
      obtain ⟨σ1, H1, J1, w1⟩ := out
      exact ⟨σ1, H1, J1.ofTry okX, w1⟩
    | cont =>
      obtain ⟨σ1, H1, J1, w1⟩ := out
      exact ⟨σ1, H1, J1.ofTry okX, w1⟩
    | ret u =>
      obtain ⟨v1, σ1, H1, J1, r1, w1⟩ := out
      exact ⟨v1, σ1, H1, J1.ofTry okX, r1, w1⟩
  · obtain ⟨a, B, sI, pn1, σ1, H1, q, d, rfl, J1, nb, up, sk, na, eo, ag, wz⟩ := xx
    have J2 : Inv X pn0 σ1 H1 sI := J1.ofTry okX
    have sk2 : Sky B (X.env :: X.outer) a (Zc q d) X.env.locals s1.heap := by rw [← h1]; exact sk
    show wpAny (model X.prog X.w) X.A (noteFrame (.ref a) X.env) _ _ _
    refine Sky.land Zc.steady frX h2 sk2 fun g3 f3 u3 => ?_
    have J3 : Inv X pn0 σ1 H1 { s1 with heap := g3 } := J2.landed nb f3.1 (up.trans u3) eo ag
    obtain ⟨o3, v3, y3, z3, d3⟩ := f3.there
    have off : a ∉ frs (X.env :: X.outer) := fun hm => by
      obtain ⟨_, o', e', hnf⟩ := f3.2.2.1.mem hm
      rw [y3] at e'
      cases e'
      exact hnf _ d3
    have offL : a ≠ X.env.locals := fun z => off (List.mem_filterMap.mpr ⟨X.env, List.mem_cons_self, by rw [h2, z]⟩)
    have offF : a ∉ X.fs := fun hm => by
      obtain ⟨v, hv, w⟩ := List.mem_filterMap.mp hm
      exact off (List.mem_filterMap.mpr ⟨v, List.mem_cons_of_mem _ hv, w⟩)
    have S3 := J3.suite y3 d3 na offL offF
    have ty : PySem.W.Looks (model X.prog X.w) g3 (typeOf (.ref a)) q := fun _ _ _ _ k w => wpAny_typeOf_ref (k _ _ y3) (by rw [z3.1]; exact w)
    have go : ∀ {es' : List ExceptHandler} {l' : List Hnd}, HsOk X es' l' → wHs X.K Wo D0 l' q d σ1 H1 → wpAny (model X.prog X.w) X.A (handleBy (.ref a) X.env es') (SP X pn0 D0) X.xe { s1 with heap := g3 } := by
      intro es' l' hk
      induction hk with
      | nil =>
        intro wo
        refine wpAny_handleBy_nil ?_
        obtain ⟨k1, k2, k3, oe, vs, T, oT, ts', he, hz, hd, hT, hr⟩ := id f3
        unfold PySem.passOn
        refine wpAny_bind (wpAny_field he hd hT ?_)
        rw [if_neg (show ¬ ((Value.ref T == Value.none) = true) from by simp)]
        have last : wpAny (model X.prog X.w) X.A (setFlight (.ref a) X.env.frame) (fun _ s4 => wpAny (model X.prog X.w) X.A (throw (.ref a) : Sem Flow) (SP X pn0 D0) X.xe s4) X.xe { s1 with heap := g3 } := by
          rw [h2]
          refine HandSPX.setFlight_upZ f3 fun g4 y4 u4 => wpAny_throw (tk _ _ ?_)
          exact ⟨a, B, sI, pn0, σ1, H1, q, d, rfl, J2, nb, (up.trans u3).trans u4, .inr (.inr (by rw [h1]; exact y4)), na, eo, ag, wo⟩
        first
          | exact wpAny_bind (wpAny_pure (wpAny_bind last))
          | exact wpAny_bind last
      | @cons x n c i ts b0 sts p1 p2 es2 l2 hc hi hl hsu r ih =>
        intro wo
        obtain ⟨b, w1, w2, w3⟩ := wo
        refine wpAny_handleBy_cons (codeAny_handlers_test ?_) (by intro z; cases z)
        have mt := PySem.W.exm_one (M := model X.prog X.w) (J3.kIn) ty w1
        have name : ∀ {Q E : Value → Shared → Prop}, Q c { s1 with heap := g3 } → wpAny (model X.prog X.w) (X.A.mark (some (.ref a))) (eval (.Name x p1) X.env) Q E { s1 with heap := g3 } := fun {Q E} w => by
          obtain ⟨hg, hdb, hm | ⟨hm, hv, hnn⟩⟩ := hc
          · exact ld_glob (X := X.suite a ((a, o3) :: (X.pn ++ pn0))) S3 hg hm w hdb
          · exact ld_blt (X := X.suite a ((a, o3) :: (X.pn ++ pn0))) S3 hg hm hv w hnn hdb
        refine name (mt.here ?_)
        cases b with
        | false =>
          show wpAny _ X.A (handleBy (.ref a) X.env es2) _ _ _
          exact ih (w3 rfl)
        | true =>
          refine codeAny_handlers_suite_as ?_
          refine HandSPX.lands_againZ f3 fun g4 f4 u4 => ?_
          have J4 : Inv X pn0 σ1 H1 { s1 with heap := g4 } := J2.landed nb f4.1 ((up.trans u3).trans u4) eo ag
          obtain ⟨o4, v4, y4, z4, d4⟩ := f4.there
          have S4 := J4.suite y4 d4 na offL offF
          refine store_ok (X := X.suite a ((a, o4) :: (X.pn ++ pn0))) (v := .ref a) S4 nd hi (.inl hl) rfl (fun s5 S5 => ?_) (.inr hl)
          refine wpAny_mono ((hsu a o4 q d (X.pn ++ pn0) z4 ⟨_, d4⟩).run [] s5 _ H1 _ S5 (w2 rfl a na)) (fun fl s6 out => ?_) (fun _ _ z => z.elim)
          have fin : ∀ {σ6 : L2.St} {H6 : Hp} {Q : Shared → Prop}, Inv (X.suite a ((a, o4) :: (X.pn ++ pn0))) [] σ6 H6 s6 → (∀ s7, Inv X pn0 (σ6.set i none) H6 s7 → Q s7) →
              wpAny (model X.prog X.w) X.A (do bindName X.env n .none; unbindBehindTheSuite X.env n p2) (fun _ s7 => Q s7) X.xe s6 := fun {σ6 H6 Q} S6 w => gone_ok (S6.unsuite okX) nd hi hl w
          cases fl with
          | next =>
            obtain ⟨σ6, H6, S6, w6⟩ := out
            exact fin S6 fun s7 J7 => ⟨_, _, J7, w6⟩
          | brk =>
            obtain ⟨σ6, H6, S6, w6⟩ := out
            exact fin S6 fun s7 J7 => ⟨_, _, J7, w6⟩
          | cont =>
            obtain ⟨σ6, H6, S6, w6⟩ := out
            exact fin S6 fun s7 J7 => ⟨_, _, J7, w6⟩
          | ret u =>
            obtain ⟨v6, σ6, H6, S6, r6, w6⟩ := out
            exact fin S6 fun s7 J7 => ⟨_, _, _, J7, r6, w6⟩
    exact go hh wz
end

/-! ### .. as a meaning -/
/-- no error is held any more -/
def dropX : Evn → Evn
  | [] => []
  | some (.exn _) :: r => none :: dropX r
  | some (.val d) :: r => some (.val d) :: dropX r
  | some (.own ds) :: r => some (.own ds) :: dropX r
  | none :: r => none :: dropX r
theorem dropX_len : ∀ ρ : Evn, (dropX ρ).length = ρ.length
  | [] => rfl
  | none :: r => congrArg (· + 1) (dropX_len r)
  | some (.val _) :: r => congrArg (· + 1) (dropX_len r)
  | some (.own _) :: r => congrArg (· + 1) (dropX_len r)
  | some (.exn _) :: r => congrArg (· + 1) (dropX_len r)
theorem dropX_get : ∀ (ρ : Evn) (i : Nat) (c : Cel), (dropX ρ)[i]? = some (some c) → ρ[i]? = some (some c) ∧ ∀ x, c ≠ .exn x
  | [], _, _, h => by cases h
  | none :: r, 0, _, h => by cases h
  | some (.exn _) :: r, 0, _, h => by cases h
  | some (.val d) :: r, 0, _, h => by cases h; exact ⟨rfl, fun _ e => by cases e⟩
  | some (.own d) :: r, 0, _, h => by cases h; exact ⟨rfl, fun _ e => by cases e⟩
  | none :: r, n + 1, c, h => dropX_get r n c h
  | some (.exn _) :: r, n + 1, c, h => dropX_get r n c h
  | some (.val _) :: r, n + 1, c, h => dropX_get r n c h
  | some (.own _) :: r, n + 1, c, h => dropX_get r n c h
def endX (i : Nat) : RS → RS
  | .ok (fl, ρ) => .ok (fl, (dropX ρ).set i none)
  | _ => .bad
/-- the clause that takes an error of class c -/
def catchM (sub : Str → Str → Bool) : List (Str × Nat × (Evn → RS)) → Str → Evn → RS
  | [], c, ρ => .exc c ρ
  | (h, i, fs) :: r, c, ρ => if sub c h then (if i < ρ.length then endX i (fs (ρ.set i (some (.exn c)))) else .bad) else catchM sub r c ρ
def sTry (L : List Str) (sub : Str → Str → Bool) (hs : List (Str × Nat × (Evn → RS))) (fb : Evn → RS) (ρ : Evn) : RS := match fb ρ with
  | .ok p => .ok p
  | .exc c ρ' => if c ∈ L then catchM sub hs c ρ' else .bad
  | .bad => .bad
/-- the suite's own Pm -/
abbrev Pm.inX (P : Pm) (a : Addr) (c : Str) : Pm := ⟨P.B, P.F0, fun _ _ _ _ => False, some (a, c)⟩
abbrev Pm.wi (P : Pm) (W : WX) : Pm := ⟨P.B, P.F0, W, P.E⟩
theorem Rep.inX {K : PySem.W.Frag} {P : Pm} {ρ : Evn} {F H : Hp} {σ : Sg} {i : Nat} {a : Addr} {c : Str} (hE : P.E = none) (r : Rep K P ρ F σ H) (hi : i < ρ.length) : Rep K (P.inX a c) (ρ.set i (some (.exn c))) F (σ.set i (some (.ref a))) H := by
  refine ⟨by rw [List.length_set, List.length_set]; exact r.len, r.ext, fun j x q => ?_, fun j k b ds es n q1 q2 q3 => ?_⟩
  · by_cases e : i = j
    · subst e
      rw [List.getElem?_set_self hi] at q
      cases q
      exact ⟨.ref a, by rw [List.getElem?_set_self (by rw [← r.len]; exact hi)], a, rfl, rfl⟩
    · rw [List.getElem?_set_ne e] at q
      obtain ⟨v, h1, h2⟩ := r.slot j x q
      refine ⟨v, by rw [List.getElem?_set_ne e]; exact h1, ?_⟩
      cases x with
      | val d => exact h2
      | own ds => exact h2
      | exn y =>
        obtain ⟨b, e1, _⟩ := h2
        rw [hE] at e1
        cases e1
  · have n1 : i ≠ j := fun e => by subst e; rw [List.getElem?_set_self hi] at q1; cases q1
    have n2 : i ≠ k := fun e => by subst e; rw [List.getElem?_set_self hi] at q2; cases q2
    rw [List.getElem?_set_ne n1] at q1 q3
    rw [List.getElem?_set_ne n2] at q2
    rw [List.getElem?_set_ne n2]
    exact r.sep j k b ds es n q1 q2 q3
theorem Rep.outX {K : PySem.W.Frag} {P : Pm} {ρ : Evn} {F H : Hp} {σ : Sg} {i : Nat} {a : Addr} {c : Str} (r : Rep K (P.inX a c) ρ F σ H) : Rep K P (dropX ρ) F σ H := by
  refine ⟨by rw [dropX_len]; exact r.len, r.ext, fun j x q => ?_, fun j k b ds es n q1 q2 q3 => ?_⟩
  · obtain ⟨q1, q2⟩ := dropX_get ρ j x q
    obtain ⟨v, h1, h2⟩ := r.slot j x q1
    refine ⟨v, h1, ?_⟩
    cases x with
    | val d => exact h2
    | own ds => exact h2
    | exn y => exact absurd rfl (q2 y)
  · exact r.sep j k b ds es n (dropX_get ρ j _ q1).1 (dropX_get ρ k _ q2).1 q3
theorem Rep.wi {K : PySem.W.Frag} {P : Pm} {W : WX} {ρ : Evn} {F H : Hp} {σ : Sg} : Rep K (P.wi W) ρ F σ H ↔ Rep K P ρ F σ H :=
  ⟨fun r => ⟨r.len, r.ext, r.slot, r.sep⟩, fun r => ⟨r.len, r.ext, r.slot, r.sep⟩⟩
/-- what a clause's suite does -/
def tsX (X : Cx) (P : Pm) (L : List Str) (fs : Evn → RS) : Addr → Value → Option Addr → TS := fun a q d D σ H => ∃ c C ρ F, c ∈ L ∧ q = .ref C ∧ d = none ∧ X.mg c = some (.ref C) ∧ Rep X.K (P.inX a c) ρ F σ H ∧ OutS X (P.inX a c) D F (fs ρ)
/-- the clauses -/
inductive HV (X : Cx) (P : Pm) (L : List Str) (sub : Str → Str → Bool) : List ExceptHandler → List (Str × Nat × (Evn → RS)) → List Hnd → Prop
  | nil : HV X P L sub [] [] []
  | cons {x n : Str} {cv : Value} {i : Nat} {fs : Evn → RS} {b0 : Stmt} {sts : List Stmt} {p1 p2 : Pos} {es : List ExceptHandler} {hs : List (Str × Nat × (Evn → RS))} {l : List Hnd} (hc : Names X x cv) (hi : X.N[i]? = some n) (hl : X.env.kindOf n = some .local)
      (hx : ∀ c C, c ∈ L → X.mg c = some (.ref C) → PySem.W.exmOne X.K (.ref C) cv = some (sub c x))
      (hsu : ∀ (a : Addr) (o : Obj) (c : Str) (C : Addr) (pn : List (Addr × Obj)), c ∈ L → X.mg c = some (.ref C) → Zc (.ref C) none o → (∃ vs, o.data = .fields vs) → VSs (X.suite a ((a, o) :: pn)) (P.inX a c) (b0 :: sts) fs) (r : HV X P L sub es hs l) :
      HV X P L sub (.ExceptHandler (some (.Name x p1)) (some n) (b0 :: sts) p2 :: es) ((x, i, fs) :: hs) ((cv, i, tsX X P L fs) :: l)
section
variable {X : Cx} {P : Pm} {L : List Str} {sub : Str → Str → Bool} {body : List Stmt} {e0 : ExceptHandler} {es : List ExceptHandler} {hs : List (Str × Nat × (Evn → RS))} {l : List Hnd} {pos : Pos} {fb : Evn → RS}
theorem HV.ok (h : HV X P L sub es hs l) : HsOk X es l := by
  induction h with
  | nil => exact .nil
  | cons hc hi hl hx hsu r ih =>
    refine .cons hc hi hl (fun a o q d pn z w => ⟨fun pins s σ H D I t => ?_⟩) ih
    obtain ⟨c, C, ρ, F, h1, rfl, rfl, h2, h3, h4⟩ := t
    exact (hsu a o c C pn h1 h2 z w).run pins s σ H D I ⟨ρ, F, h3, h4⟩
theorem HV.catch (hE : P.E = none) (h : HV X P L sub es hs l) {D : Ends} {c : Str} {C : Addr} {ρ : Evn} {F F' H' : Hp} {σ' : Sg} (hc : c ∈ L) (hm : X.mg c = some (.ref C)) (sf : Same F F') (r : Rep X.K P ρ F' σ' H')
    (o : OutS X P D F (catchM sub hs c ρ)) : wHs X.K P.W D l (.ref C) none σ' H' := by
  induction h with
  | nil => exact o C σ' H' F' hm sf r
  | @cons x n cv i fs b0 sts p1 p2 es hs l hcn hi hln hx hsu rr ih =>
    refine ⟨sub c x, hx c C hc hm, fun hb a na => ?_, fun hb => ?_⟩
    · unfold catchM at o
      rw [if_pos hb] at o
      have hl : i < ρ.length := by
        by_cases hl : i < ρ.length
        · exact hl
        · rw [if_neg hl] at o
          exact o.elim
      rw [if_pos hl] at o
      refine ⟨c, C, ρ.set i (some (.exn c)), F', hc, rfl, rfl, hm, r.inX hE hl, ?_⟩
      cases q : fs (ρ.set i (some (.exn c))) with
      | bad => rw [q] at o; exact o.elim
      | exc c' ρ' => rw [q] at o; exact o.elim
      | ok p =>
        obtain ⟨fl, ρ'⟩ := p
        rw [q] at o
        cases fl with
        | nx => exact fun σ1 H1 F1 s1 r1 => o _ H1 F1 (sf.trans s1) (Rep.setNone (Rep.outX (i := i) r1))
        | bk => exact fun σ1 H1 F1 s1 r1 => o _ H1 F1 (sf.trans s1) (Rep.setNone (Rep.outX (i := i) r1))
        | ct => exact fun σ1 H1 F1 s1 r1 => o _ H1 F1 (sf.trans s1) (Rep.setNone (Rep.outX (i := i) r1))
        | rt d => exact fun v σ1 H1 F1 s1 r1 hv => o v _ H1 F1 (sf.trans s1) (Rep.setNone (Rep.outX (i := i) r1)) hv
    · unfold catchM at o
      rw [hb, if_neg (by decide)] at o
      exact ih o
theorem vs_try (hE : P.E = none) (nd : X.N.Nodup) (tk : Takes X P.W) (hv : HV X P L sub (e0 :: es) hs l)
    (hb : ∀ (W : WX) (pn : List (Addr × Obj)) (xe : Value → Shared → Prop), Takes (X.tr pn xe) W → PassesOwn (model X.prog X.w) X.A X.env xe → VSs (X.tr pn xe) (P.wi W) body fb)
    (h1 : X.stack = X.env :: X.outer := by rfl) (h2 : X.env.frame = some X.env.locals := by rfl) : VS X P (.Try body (e0 :: es) [] [] pos) (sTry L sub hs fb) :=
  PS_mono (ps_tryN (tb := fun W => tS X (P.wi W) fb) h1 h2 nd tk (fun W pn xe t po => hb W pn xe t po) hv.ok) fun D σ H h => by
    obtain ⟨ρ, F, hR, h⟩ := h
    refine ⟨ρ, F, Rep.wi.mpr hR, ?_⟩
    unfold sTry at h
    cases q : fb ρ with
    | bad => rw [q] at h; exact h.elim
    | ok p =>
      rw [q] at h
      obtain ⟨fl, ρ'⟩ := p
      cases fl with
      | nx => exact fun σ1 H1 F1 s1 r1 => h σ1 H1 F1 s1 (Rep.wi.mp r1)
      | bk => exact fun σ1 H1 F1 s1 r1 => h σ1 H1 F1 s1 (Rep.wi.mp r1)
      | ct => exact fun σ1 H1 F1 s1 r1 => h σ1 H1 F1 s1 (Rep.wi.mp r1)
      | rt d => exact fun v σ1 H1 F1 s1 r1 hv => h v σ1 H1 F1 s1 (Rep.wi.mp r1) hv
    | exc c ρ' =>
      rw [q] at h
      intro C σ1 H1 F1 hm s1 r1
      by_cases hc : c ∈ L
      · simp only [if_pos hc] at h
        have r2 := Rep.wi.mp r1
        exact HV.catch hE hv hc hm s1 r2 h
      · simp only [if_neg hc] at h
        exact h.elim
end

/-! ### isinstance(e, T), e the error that is held -/
def mIsX (sub : Str → Str → Bool) (i : Nat) (x : Str) (ρ : Evn) : RE PyData := match ρ[i]? with
  | some (some (.exn c)) => .ok (.bool (sub c x))
  | _ => .bad
section
variable {X : Cx} {P : Pm} {a : Addr} {o : Obj} {c : Str} {C : Addr} {pn : List (Addr × Obj)} {sub : Str → Str → Bool} {pos p p1 p2 : Pos} {n x : Str}
theorem ve_isX {D : Addr} (i : Nat) (hz : Zc (.ref C) none o) (hf : ∃ vs, o.data = .fields vs) (ex : ExcC X.K C) (hk : PySem.W.kitOne X.K (.ref C) (.ref D) = some (sub c x)) (hg : Gl X "isinstance") (hm : X.mg "isinstance" = none) (hg2 : Gl X x) (hm2 : X.mg x = some (.ref D))
    (hN : X.N[i]? = some n := by rfl) (hv : Vis X.env.scope n := by first | exact Or.inl rfl | exact Or.inr (Or.inl rfl) | exact Or.inr (Or.inr rfl)) (hd : (n == ("__debug__" : Str)) = false := by decide) (hcd : (n == ("__classdict__" : Str)) = false := by decide) (hdb : (x == ("__debug__" : Str)) = false := by decide) :
    VE (X.suite a ((a, o) :: pn)) (P.inX a c) (.Call (.Name "isinstance" p) [.Name n p1, .Name x p2] [] pos) (mIsX sub i x) :=
  PE_mono (pe_callB (X := X.suite a ((a, o) :: pn)) (call_isE (X := X) ex hz hf) hg hm (by decide +kernel) (pa_cons (pe_var (X := X.suite a ((a, o) :: pn)) (i := i) hN hv hd hcd) (pa_cons (pe_glob (X := X.suite a ((a, o) :: pn)) (v := .ref D) hg2 hm2 rfl hdb) pa_nil))) fun σ H Q h => by
    obtain ⟨ρ, F, hR, h⟩ := h
    unfold mIsX at h
    split at h
    · rename_i c' q
      obtain ⟨v, h1, b, e1, e2⟩ := hR.slot i _ q
      cases e1
      subst e2
      exact ⟨_, h1, .ref D, .ref D, _, rfl, fun u hu => hu, hk, h _ H F (Ext.refl hR.fh) (.bl _)⟩
    · exact h.elim
theorem ve_isXb {T : String} (i : Nat) (hz : Zc (.ref C) none o) (hf : ∃ vs, o.data = .fields vs) (ex : ExcC X.K C) (hk : PySem.W.kitOne X.K (.ref C) (.type T) = some (sub c x)) (hg : Gl X "isinstance") (hm : X.mg "isinstance" = none) (hg2 : Gl X x) (hm2 : X.mg x = none) (hb : bootBuiltins x = some (.type T))
    (hN : X.N[i]? = some n := by rfl) (hv : Vis X.env.scope n := by first | exact Or.inl rfl | exact Or.inr (Or.inl rfl) | exact Or.inr (Or.inr rfl)) (hd : (n == ("__debug__" : Str)) = false := by decide) (hcd : (n == ("__classdict__" : Str)) = false := by decide) (hn : x ≠ "__name__" := by decide) (hdb : (x == ("__debug__" : Str)) = false := by decide) :
    VE (X.suite a ((a, o) :: pn)) (P.inX a c) (.Call (.Name "isinstance" p) [.Name n p1, .Name x p2] [] pos) (mIsX sub i x) :=
  PE_mono (pe_callB (X := X.suite a ((a, o) :: pn)) (call_isE (X := X) ex hz hf) hg hm (by decide +kernel) (pa_cons (pe_var (X := X.suite a ((a, o) :: pn)) (i := i) hN hv hd hcd) (pa_cons (pe_bltn (X := X.suite a ((a, o) :: pn)) (v := .ty T) hg2 hm2 hb rfl hn hdb) pa_nil))) fun σ H Q h => by
    obtain ⟨ρ, F, hR, h⟩ := h
    unfold mIsX at h
    split at h
    · rename_i c' q
      obtain ⟨v, h1, b, e1, e2⟩ := hR.slot i _ q
      cases e1
      subst e2
      exact ⟨_, h1, .ty T, .type T, _, rfl, fun u hu => hu, hk, h _ H F (Ext.refl hR.fh) (.bl _)⟩
    · exact h.elim
end
/-! ### raise X('m') -/
section
variable {X : Cx} {P : Pm} {C : Addr} {bmB : List Value} {B newId initId : String} {x m : Str} {j : Nat} {p p2 pos pos' : Pos}
theorem vs_raise (hc : X.calm = true) (tk : Takes X P.W) (F : ExcBaseFacts B newId initId bmB) (q : PySem.W.excIn X.K C bmB newId = true) (gC : X.mg x = some (.ref C)) (kC : PySem.W.keepIn X.K (.ref C) = true) (r : Raises X (.ref C)) (hg : Gl X x) (hdb : (x == ("__debug__" : Str)) = false := by decide) :
    VS X P (.Raise (some (.Call (.Name x p) [.Constant (.str m) j p2] [] pos)) none pos') (fun ρ => .exc x ρ) := PS_mono (ps_raise hc tk (pmk_own F q gC kC r hg hdb)) fun D σ H h => by
  obtain ⟨ρ, F, hR, h⟩ := h
  exact h C σ H F gC (Same.refl _) hR
/-- nothing is claimed of a statement -/
theorem vs_bad {st : Stmt} : VS X P st (fun _ => .bad) := ⟨fun pins s σ H D I h => by
  obtain ⟨ρ, F, hR, h⟩ := h
  exact h.elim⟩
theorem ve_bad {e : Expr} : VE X P e (fun _ => .bad) := ⟨fun pins s σ H Q I h => by
  obtain ⟨ρ, F, hR, h⟩ := h
  exact h.elim⟩
end
end PV
end
section
set_option Elab.async false
set_option linter.all false
set_option maxRecDepth 100000
set_option maxHeartbeats 4000000
namespace PV
open PySem PySem.Spec PySem.Calls PyProof.Rows L2

/-! ### the program's own error classes -/
def isxB (K : PySem.W.Frag) (D : Addr) : Bool :=
  decide (PySem.W.findIn K (.ref D) "__getattribute__" = some (some (.builtin "BaseException.__getattribute__"))) && (decide (PySem.W.findIn K (.ref D) "__getattr__" = some none) && (decide (PySem.W.subIn K (.ref D) (.type "BaseException") = some true) &&
  (PySem.W.hasDictIn K D && (decide (PySem.W.findIn K (.ref D) "__class__" = some (some (.builtin "object.__class__"))) && (decide (PySem.W.specialIn K (.builtin "object.__class__") "__get__" = some (some (.builtin "getset_descriptor.__get__"))) &&
  (decide (PySem.W.takesIn K (.builtin "object.__class__") = some true) && decide (PySem.W.mroIn K D (.type "object") = some true)))))))
theorem isx_ok {K : PySem.W.Frag} {D : Addr} (h : isxB K D = true) : ExcC K D := by
  simp only [isxB, Bool.and_eq_true, decide_eq_true_eq] at h
  obtain ⟨h1, h2, h3, h4, h5, h6, h7, h8⟩ := h
  exact ⟨h1, h2, h3, h4, h5, h6, h7, h8⟩
/-- what is asked of the classes of the list L; sub tells which is under which -/
def excsB (L : List Str) (sub : Str → Str → Bool) (K : PySem.W.Frag) : Bool := L.all fun c => (He.Fa.exc c).ok K && (isxB K (He.ga K c) && (decide (PySem.W.kitOne K (.ref (He.ga K c)) (.type "ValueError") = some (sub c "ValueError")) &&
  (L.all fun x => decide (PySem.W.exmOne K (.ref (He.ga K c)) (.ref (He.ga K x)) = some (sub c x)) && decide (PySem.W.kitOne K (.ref (He.ga K c)) (.ref (He.ga K x)) = some (sub c x)))))
structure ExAll (K : PySem.W.Frag) (mg : Str → Option Value) (L : List Str) (sub : Str → Str → Bool) : Prop where
  mg : ∀ c ∈ L, mg c = some (.ref (He.ga K c))
  ins : ∀ c ∈ L, PySem.W.excIn K (He.ga K c) He.veBase "ValueError.__new__" = true
  kp : ∀ c ∈ L, PySem.W.keepIn K (.ref (He.ga K c)) = true
  be : ∀ c ∈ L, PySem.W.subIn K (.ref (He.ga K c)) (.type "BaseException") = some true ∧ PySem.W.typeIn K (.ref (He.ga K c)) = some (.type "type")
  isx : ∀ c ∈ L, ExcC K (He.ga K c)
  kv : ∀ c ∈ L, PySem.W.kitOne K (.ref (He.ga K c)) (.type "ValueError") = some (sub c "ValueError")
  exm : ∀ c ∈ L, ∀ x ∈ L, PySem.W.exmOne K (.ref (He.ga K c)) (.ref (He.ga K x)) = some (sub c x)
  kit : ∀ c ∈ L, ∀ x ∈ L, PySem.W.kitOne K (.ref (He.ga K c)) (.ref (He.ga K x)) = some (sub c x)
theorem exAll_of {L : List Str} {sub : Str → Str → Bool} {K : PySem.W.Frag} {mg : Str → Option Value} (h : excsB L sub K = true) (hm : ∀ c ∈ L, mg c = some (.ref (He.ga K c))) : ExAll K mg L sub := by
  have key : ∀ c ∈ L, _ := fun c hc => List.all_eq_true.mp h c hc
  simp only [Bool.and_eq_true, decide_eq_true_eq, List.all_eq_true] at key
  exact ⟨hm, fun c hc => (He.exc_ok (key c hc).1).1, fun c hc => (He.exc_ok (key c hc).1).2.1, fun c hc => (He.exc_ok (key c hc).1).2.2, fun c hc => isx_ok (key c hc).2.1, fun c hc => (key c hc).2.2.1, fun c hc x hx => ((key c hc).2.2.2 x hx).1, fun c hc x hx => ((key c hc).2.2.2 x hx).2⟩
section
variable {X : Cx} {P : Pm} {L : List Str} {sub : Str → Str → Bool} {x m n c : Str} {j : Nat} {a C : Addr} {o : Obj} {pn : List (Addr × Obj)} {p p1 p2 pos pos' : Pos}
theorem vs_rai (hc : X.calm = true) (tk : Takes X P.W) (ex : ExAll X.K X.mg L sub) (hx : x ∈ L) (hg : Gl X x) (hdb : (x == ("__debug__" : Str)) = false := by decide) :
    VS X P (.Raise (some (.Call (.Name x p) [.Constant (.str m) j p2] [] pos)) none pos') (fun ρ => .exc x ρ) :=
  vs_raise hc tk PySem.F.excBase_ValueError (ex.ins x hx) (ex.mg x hx) (ex.kp x hx) (raises_own (ex.be x hx).1 (ex.be x hx).2) hg hdb
theorem ve_isx (i : Nat) (ex : ExAll X.K X.mg L sub) (hx : x ∈ L) (hcL : c ∈ L) (hC : X.mg c = some (.ref C)) (hz : Zc (.ref C) none o) (hf : ∃ vs, o.data = .fields vs) (hg : Gl X "isinstance") (hm : X.mg "isinstance" = none) (hg2 : Gl X x)
    (hN : X.N[i]? = some n := by rfl) (hv : Vis X.env.scope n := by first | exact Or.inl rfl | exact Or.inr (Or.inl rfl) | exact Or.inr (Or.inr rfl)) (hd : (n == ("__debug__" : Str)) = false := by decide) (hcd : (n == ("__classdict__" : Str)) = false := by decide) (hdb : (x == ("__debug__" : Str)) = false := by decide) :
    VE (X.suite a ((a, o) :: pn)) (P.inX a c) (.Call (.Name "isinstance" p) [.Name n p1, .Name x p2] [] pos) (mIsX sub i x) := by
  have e := (ex.mg c hcL).symm.trans hC
  cases e
  exact ve_isX i hz hf (ex.isx c hcL) (ex.kit c hcL x hx) hg hm hg2 (ex.mg x hx) hN hv hd hcd hdb
theorem ve_isv (i : Nat) (ex : ExAll X.K X.mg L sub) (hcL : c ∈ L) (hC : X.mg c = some (.ref C)) (hz : Zc (.ref C) none o) (hf : ∃ vs, o.data = .fields vs) (hg : Gl X "isinstance") (hm : X.mg "isinstance" = none) (hg2 : Gl X "ValueError") (hm2 : X.mg "ValueError" = none)
    (hN : X.N[i]? = some n := by rfl) (hv : Vis X.env.scope n := by first | exact Or.inl rfl | exact Or.inr (Or.inl rfl) | exact Or.inr (Or.inr rfl)) (hd : (n == ("__debug__" : Str)) = false := by decide) (hcd : (n == ("__classdict__" : Str)) = false := by decide) :
    VE (X.suite a ((a, o) :: pn)) (P.inX a c) (.Call (.Name "isinstance" p) [.Name n p1, .Name "ValueError" p2] [] pos) (mIsX sub i "ValueError") := by
  have e := (ex.mg c hcL).symm.trans hC
  cases e
  exact ve_isXb i hz hf (ex.isx c hcL) (ex.kv c hcL) hg hm hg2 hm2 (by decide +kernel) hN hv hd hcd
theorem hv_nil : HV X P L sub [] [] [] := .nil
theorem hv_cons {i : Nat} {fs : Evn → RS} {b0 : Stmt} {sts : List Stmt} {es : List ExceptHandler} {hs : List (Str × Nat × (Evn → RS))} {l : List Hnd} (ex : ExAll X.K X.mg L sub) (hx : x ∈ L) (hg : Gl X x) (hi : X.N[i]? = some n) (hl : X.env.kindOf n = some .local)
    (hsu : ∀ (a : Addr) (o : Obj) (c : Str) (C : Addr) (pn : List (Addr × Obj)), c ∈ L → X.mg c = some (.ref C) → Zc (.ref C) none o → (∃ vs, o.data = .fields vs) → VSs (X.suite a ((a, o) :: pn)) (P.inX a c) (b0 :: sts) fs)
    (r : HV X P L sub es hs l) (hdb : (x == ("__debug__" : Str)) = false := by decide) :
    HV X P L sub (.ExceptHandler (some (.Name x p1)) (some n) (b0 :: sts) p2 :: es) ((x, i, fs) :: hs) ((.ref (He.ga X.K x), i, tsX X P L fs) :: l) :=
  .cons ⟨hg, hdb, .inl (ex.mg x hx)⟩ hi hl (fun c C hc hC => by
    have e := (ex.mg c hc).symm.trans hC
    cases e
    exact ex.exm c hc x hx) hsu r
end

/-- a name of the module that stands for a whole number -/
theorem ve_gint {X : Cx} {P : Pm} {x : Str} {i : Int} {p : Pos} (h : ∃ t, X.mg x = some (.int i t)) (hg : Gl X x := by rfl) (hdb : (x == ("__debug__" : Str)) = false := by decide) : VE X P (.Name x p) (mC (.int i)) := by
  obtain ⟨t, h⟩ := h
  exact PE_mono (pe_glob (v := .int i) hg h ⟨t, rfl⟩ hdb) fun σ H Q h => by
    obtain ⟨ρ, F, hR, h⟩ := h
    exact h _ H F (Ext.refl hR.fh) (.int _)
/-- a name of the module that stands for a text -/
theorem ve_gstr {X : Cx} {P : Pm} {x z : Str} {p : Pos} (h : ∃ t, X.mg x = some (.str z t)) (hg : Gl X x := by rfl) (hdb : (x == ("__debug__" : Str)) = false := by decide) (hs : PyData.strOk z = true := by decide +kernel) : VE X P (.Name x p) (mC (.str z)) := by
  obtain ⟨t, h⟩ := h
  exact PE_mono (pe_glob (v := .str z) hg h ⟨t, rfl⟩ hdb) fun σ H Q h => by
    obtain ⟨ρ, F, hR, h⟩ := h
    exact h _ H F (Ext.refl hR.fh) (.str z hs)
/-- a name of the module that stands for a tuple of whole numbers -/
def GTup (K : PySem.W.Frag) (mg : Str → Option Value) (x : Str) (is : List Int) : Prop := ∃ a, mg x = some (.ref a) ∧ ∃ (o : Obj) (its : Array Value) (n : Nat), K.lookup a = some o ∧ o.cls = .type "tuple" ∧ o.data = .seq its n ∧ its.size ≤ sizeLine ∧ Vals (is.map V.int) its.toList
def intsB : List Value → List Int → Bool
  | [], [] => true
  | .int i _ :: r, j :: s => decide (i = j) && intsB r s
  | _, _ => false
theorem intsB_ok : ∀ {us : List Value} {is : List Int}, intsB us is = true → Vals (is.map V.int) us
  | [], [], _ => .nil
  | .int i t :: r, j :: s, h => by
    simp only [intsB, Bool.and_eq_true, decide_eq_true_eq] at h
    obtain ⟨rfl, h⟩ := h
    exact .cons ⟨t, rfl⟩ (intsB_ok h)
  | [], _ :: _, h => by simp [intsB] at h
  | .int _ _ :: _, [], h => by simp [intsB] at h
def tupB (x : Str) (is : List Int) (K : PySem.W.Frag) : Bool := match K.lookup (He.ga K x) with
  | some o => decide (o.cls = .type "tuple") && (match o.data with
    | .seq its _ => decide (its.size ≤ 1000) && intsB its.toList is
    | _ => false)
  | none => false
theorem tup_of {x : Str} {is : List Int} {K : PySem.W.Frag} {mg : Str → Option Value} (h : tupB x is K = true) (hm : mg x = some (.ref (He.ga K x))) : GTup K mg x is := by
  refine ⟨_, hm, ?_⟩
  unfold tupB at h
  split at h
  · rename_i o q
    simp only [Bool.and_eq_true, decide_eq_true_eq] at h
    obtain ⟨h1, h2⟩ := h
    split at h2
    · rename_i its n e
      simp only [Bool.and_eq_true, decide_eq_true_eq] at h2
      exact ⟨o, its, n, q, h1, e, by rw [line_eq]; omega, intsB_ok h2.2⟩
    · cases h2
  · cases h
theorem ints_vd {K : PySem.W.Frag} {F : Hp} : ∀ is : List Int, VdAll K F (is.map V.int) (is.map PyData.int)
  | [] => .nil
  | i :: r => .cons (.int i) (ints_vd r)
theorem ve_gtup {X : Cx} {P : Pm} {x : Str} {is : List Int} {p : Pos} (h : GTup X.K X.mg x is) (hg : Gl X x := by rfl) (hdb : (x == ("__debug__" : Str)) = false := by decide) : VE X P (.Name x p) (mC (.tuple (is.map .int))) := by
  obtain ⟨a, hm, o, its, n, h1, h2, h3, h4, h5⟩ := h
  exact PE_mono (pe_glob (v := .ref a) hg hm rfl hdb) fun σ H Q h => by
    obtain ⟨ρ, F, hR, h⟩ := h
    exact h _ H F (Ext.refl hR.fh) (.tup (.inr ⟨o, its, n, h1, h2, h3, h4, h5⟩) (by rw [Vals.length h5]; rw [Array.length_toList]; exact h4) (ints_vd is))
/-! ### reckoned -/
/-- the error that a name holds -/
def gtX : Evn → Nat → Option Str
  | [], _ => none
  | some (.exn c) :: _, 0 => some c
  | some (.val _) :: _, 0 => none
  | some (.own _) :: _, 0 => none
  | none :: _, 0 => none
  | _ :: r, n + 1 => gtX r n
@[simp] theorem gx_v (c : Str) (r : Evn) : gtX (some (.exn c) :: r) 0 = some c := nr rfl
@[simp] theorem gx_s (o : Option Cel) (r : Evn) (n : Nat) : gtX (o :: r) (n + 1) = gtX r n := by cases o with
  | none => rfl
  | some c => cases c <;> rfl
@[simp] theorem e_mIsX (sub : Str → Str → Bool) (i : Nat) (x : Str) (ρ : Evn) : mIsX sub i x ρ = (ofO (gtX ρ i)).bind fun c => .ok (.bool (sub c x)) := by
  unfold mIsX
  induction ρ generalizing i with
  | nil => rfl
  | cons o r ih => cases i with
    | zero => rcases o with _ | ⟨_ | _ | _⟩ <;> rfl
    | succ n => rw [List.getElem?_cons_succ, gx_s]; exact ih n
def tryC (L : List Str) (sub : Str → Str → Bool) (hs : List (Str × Nat × (Evn → RS))) : RS → RS
  | .ok p => .ok p
  | .exc c ρ => if c ∈ L then catchM sub hs c ρ else .bad
  | .bad => .bad
@[simp] theorem e_sTry (L : List Str) (sub : Str → Str → Bool) (hs : List (Str × Nat × (Evn → RS))) (fb : Evn → RS) (ρ : Evn) : sTry L sub hs fb ρ = tryC L sub hs (fb ρ) := by
  unfold sTry tryC
  cases fb ρ <;> rfl
@[simp] theorem tc_ok (L : List Str) (sub : Str → Str → Bool) (hs : List (Str × Nat × (Evn → RS))) (p : Fl × Evn) : tryC L sub hs (.ok p) = .ok p := nr rfl
@[simp] theorem tc_exc (L : List Str) (sub : Str → Str → Bool) (hs : List (Str × Nat × (Evn → RS))) (c : Str) (ρ : Evn) : tryC L sub hs (.exc c ρ) = if c ∈ L then catchM sub hs c ρ else .bad := nr rfl
@[simp] theorem cm_nil (sub : Str → Str → Bool) (c : Str) (ρ : Evn) : catchM sub [] c ρ = .exc c ρ := nr rfl
@[simp] theorem cm_cons (sub : Str → Str → Bool) (h : Str) (i : Nat) (fs : Evn → RS) (r : List (Str × Nat × (Evn → RS))) (c : Str) (ρ : Evn) : catchM sub ((h, i, fs) :: r) c ρ = if sub c h = true then (if i < ρ.length then endX i (fs (stE ρ i (.exn c))) else .bad) else catchM sub r c ρ := by
  rw [← set_stE]; exact id rfl
@[simp] theorem ex_ok (i : Nat) (fl : Fl) (ρ : Evn) : endX i (.ok (fl, ρ)) = .ok (fl, clE (dropX ρ) i) := by rw [← set_clE]; exact id rfl
@[simp] theorem dx_nil : dropX [] = [] := nr rfl
@[simp] theorem dx_v (d : PyData) (r : Evn) : dropX (some (.val d) :: r) = some (.val d) :: dropX r := nr rfl
@[simp] theorem dx_o (d : List PyData) (r : Evn) : dropX (some (.own d) :: r) = some (.own d) :: dropX r := nr rfl
@[simp] theorem dx_x (c : Str) (r : Evn) : dropX (some (.exn c) :: r) = none :: dropX r := nr rfl
@[simp] theorem dx_n (r : Evn) : dropX (none :: r) = none :: dropX r := nr rfl
@[simp] theorem at_exx (c : Str) (u : Unit) (ρ : Evn) : R.at (.exc c u : RE PyData) ρ = .exc c ρ := nr rfl
end PV
end
section
set_option Elab.async false
set_option linter.all false
set_option maxRecDepth 100000
set_option maxHeartbeats 4000000
namespace PV
open PySem

/-! ### likeness of plain data with themselves -/
theorem eqvAll_self : ∀ {xs : List PyData}, (∀ x ∈ xs, PyData.eqv x x = true) → PyData.eqvAll xs xs = true
  | [], _ => by simp only [PyData.eqvAll]
  | x :: r, h => by
    simp only [PyData.eqvAll]
    rw [h x (List.mem_cons_self ..), eqvAll_self (fun y hy => h y (List.mem_cons_of_mem _ hy))]
    rfl
theorem eqv_self : ∀ (k : Nat) (d : PyData), plainD k d → PyData.eqv d d = true
  | 0, _, h => h.elim
  | k + 1, .none, _ => by simp only [PyData.eqv]
  | k + 1, .bool b, _ => by simp [PyData.eqv]
  | k + 1, .int b, _ => by simp [PyData.eqv]
  | k + 1, .str b, _ => by simp [PyData.eqv]
  | k + 1, .list xs, h => by
    simp only [PyData.eqv]
    exact eqvAll_self fun x hx => eqv_self k x (h.2 x hx)
  | k + 1, .tuple xs, h => by
    simp only [PyData.eqv]
    exact eqvAll_self fun x hx => eqv_self k x (h.2 x hx)
  | k + 1, .dict _, h => h.elim
theorem depthAll_le {k : Nat} : ∀ {xs : List PyData}, (∀ x ∈ xs, x.depth ≤ k) → PyData.depthAll xs ≤ k
  | [], _ => Nat.zero_le _
  | x :: r, h => by
    simp only [PyData.depthAll]
    exact Nat.max_le.mpr ⟨h x (List.mem_cons_self ..), depthAll_le fun y hy => h y (List.mem_cons_of_mem _ hy)⟩
theorem depth_plain : ∀ (k : Nat) (d : PyData), plainD k d → d.depth ≤ k
  | 0, _, h => h.elim
  | k + 1, .none, _ => Nat.zero_le _
  | k + 1, .bool b, _ => Nat.zero_le _
  | k + 1, .int b, _ => Nat.zero_le _
  | k + 1, .str b, _ => Nat.zero_le _
  | k + 1, .list xs, h => by
    simp only [PyData.depth]
    exact Nat.succ_le_succ (depthAll_le fun x hx => depth_plain k x (h.2 x hx))
  | k + 1, .tuple xs, h => by
    simp only [PyData.depth]
    exact Nat.succ_le_succ (depthAll_le fun x hx => depth_plain k x (h.2 x hx))
  | k + 1, .dict _, h => h.elim
theorem eq_self {k : Nat} {d : PyData} (hk : k ≤ 64) (h : plainD k d) : pEq d d = some (.bool true) := by
  unfold pEq
  rw [if_pos (show eqOk d d from Or.inl (Nat.le_trans (depth_plain k d h) hk)), eqv_self k d h]
theorem ne_self {k : Nat} {d : PyData} (hk : k ≤ 64) (h : plainD k d) : pNe d d = some (.bool false) := by
  unfold pNe
  rw [if_pos (show eqOk d d from Or.inl (Nat.le_trans (depth_plain k d h) hk)), eqv_self k d h]
  rfl
open PySem.W in
theorem eq_pr (a b c d : Int) : pEq (.tuple [.int a, .int b]) (.tuple [.int c, .int d]) = some (.bool (decide ((a, b) = (c, d)))) := eq_dat (α := Int × Int) (by decide) (a, b) (c, d)
open PySem.W in
theorem ne_pr (a b c d : Int) : pNe (.tuple [.int a, .int b]) (.tuple [.int c, .int d]) = some (.bool (decide ((a, b) ≠ (c, d)))) := ne_dat (α := Int × Int) (by decide) (a, b) (c, d)

/-! ### greatest, least -/
theorem lmax_some {ns : List Int} (h : ns ≠ []) : ∃ m, lmax ns = some m ∧ m ∈ ns ∧ ∀ y ∈ ns, y ≤ m := by
  cases ns with
  | nil => exact absurd rfl h
  | cons n r =>
    obtain ⟨h1, h2, h3⟩ := foldl_max r n
    refine ⟨_, rfl, ?_, ?_⟩
    · rcases h1 with h1 | h1
      · rw [h1]; exact List.mem_cons_self ..
      · exact List.mem_cons_of_mem _ h1
    · intro y hy
      rcases List.mem_cons.mp hy with rfl | hy
      · exact h2
      · exact h3 y hy
theorem lmin_some {ns : List Int} (h : ns ≠ []) : ∃ m, lmin ns = some m ∧ m ∈ ns ∧ ∀ y ∈ ns, m ≤ y := by
  cases ns with
  | nil => exact absurd rfl h
  | cons n r =>
    obtain ⟨h1, h2, h3⟩ := foldl_min r n
    refine ⟨_, rfl, ?_, ?_⟩
    · rcases h1 with h1 | h1
      · rw [h1]; exact List.mem_cons_self ..
      · exact List.mem_cons_of_mem _ h1
    · intro y hy
      rcases List.mem_cons.mp hy with rfl | hy
      · exact h2
      · exact h3 y hy
/-! ### sizes -/
theorem log2_sz {i : Int} {a : Nat} (hi : i.natAbs < 2 ^ a) : i.natAbs.log2 ≤ a := by
  by_cases h : i.natAbs = 0
  · rw [h]; exact Nat.zero_le _
  · exact Nat.le_of_lt ((Nat.log2_lt h).mpr hi)
theorem mulOk_sz {i j : Int} {a b : Nat} (hi : i.natAbs < 2 ^ a) (hj : j.natAbs < 2 ^ b) (h : a + b ≤ 900000) : mulOk i j := by
  have h1 := log2_sz hi
  have h2 := log2_sz hj
  exact .inr (.inr (by omega))
theorem divOk_sz {j : Int} {b : Nat} (h0 : j ≠ 0) (hj : j.natAbs < 2 ^ b) (h : b < 9000) : divOk j := by
  have h1 := log2_sz hj
  exact ⟨h0, by omega⟩
theorem pow_le_pow2 {a b : Nat} (h : a ≤ b) : 2 ^ a ≤ 2 ^ b := Nat.pow_le_pow_right (by decide) h
theorem mul_sz {i j : Int} {a b : Nat} (hi : i.natAbs < 2 ^ a) (hj : j.natAbs < 2 ^ b) : (i * j).natAbs < 2 ^ (a + b) := by
  rw [Int.natAbs_mul, Nat.pow_add]
  exact Nat.mul_lt_mul'' hi hj
theorem add_sz {i j : Int} {a : Nat} (hi : i.natAbs < 2 ^ a) (hj : j.natAbs < 2 ^ a) : (i + j).natAbs < 2 ^ (a + 1) := by
  have := Int.natAbs_add_le i j
  rw [Nat.pow_succ]
  omega
theorem sub_sz {i j : Int} {a : Nat} (hi : i.natAbs < 2 ^ a) (hj : j.natAbs < 2 ^ a) : (i - j).natAbs < 2 ^ (a + 1) := by
  have := Int.natAbs_add_le i (-j)
  rw [Int.natAbs_neg] at this
  rw [Nat.pow_succ, Int.sub_eq_add_neg]
  omega

/-! ### fractions -/
abbrev qd (q : Rat) : PyData := .tuple [.int q.num, .int q.den]
def Sz (n : Nat) (q : Rat) : Prop := q.num.natAbs < 2 ^ n ∧ q.den < 2 ^ n
theorem Sz.mono {a b : Nat} {q : Rat} (h : Sz a q) (hab : a ≤ b) : Sz b q := ⟨Nat.lt_of_lt_of_le h.1 (pow_le_pow2 hab), Nat.lt_of_lt_of_le h.2 (pow_le_pow2 hab)⟩
theorem Sz.dn {a : Nat} {q : Rat} (h : Sz a q) : (q.den : Int).natAbs < 2 ^ a := by rw [Int.natAbs_natCast]; exact h.2
theorem den_pos (q : Rat) : (0 : Int) < q.den := by have := q.den_pos; omega
theorem divInt_parts {t b : Int} (hb : 0 < b) : (Rat.divInt t b).num = t / ((Nat.gcd t.natAbs b.natAbs : Nat) : Int) ∧ (((Rat.divInt t b).den : Nat) : Int) = b / ((Nat.gcd t.natAbs b.natAbs : Nat) : Int) := by
  have h1 := Rat.num_divInt t b
  have h2 := Rat.den_divInt t b
  have e : b.gcd t = Nat.gcd t.natAbs b.natAbs := by rw [Int.gcd, Nat.gcd_comm]
  rw [e] at h1 h2
  constructor
  · rw [h1, Int.sign_eq_one_of_pos hb, Int.one_mul]
  · rw [h2, if_neg (by omega), Int.natCast_ediv, Int.natAbs_of_nonneg (by omega)]
theorem divInt_flip (t b : Int) (hb : b ≠ 0) : Rat.divInt (-t) (-b) = Rat.divInt t b := (Rat.divInt_eq_divInt_iff (by omega) hb).mpr (by rw [Int.neg_mul, Int.mul_neg])
theorem divInt_sz {t b : Int} {n : Nat} (hb : b ≠ 0) (h1 : t.natAbs < 2 ^ n) (h2 : b.natAbs < 2 ^ n) : Sz n (Rat.divInt t b) := by
  have key : ∀ (t b : Int), 0 < b → t.natAbs < 2 ^ n → b.natAbs < 2 ^ n → Sz n (Rat.divInt t b) := by
    intro t b hb h1 h2
    obtain ⟨e1, e2⟩ := divInt_parts (t := t) hb
    have g0 : 0 < Nat.gcd t.natAbs b.natAbs := Nat.gcd_pos_of_pos_right _ (by omega)
    constructor
    · rw [e1, Int.natAbs_ediv_of_dvd (Int.ofNat_dvd_left.mpr (Nat.gcd_dvd_left _ _)), Int.natAbs_natCast]
      exact Nat.lt_of_le_of_lt (Nat.div_le_self _ _) h1
    · have : ((Rat.divInt t b).den : Int).natAbs < 2 ^ n := by
        rw [e2, Int.natAbs_ediv_of_dvd (Int.ofNat_dvd_left.mpr (Nat.gcd_dvd_right _ _)), Int.natAbs_natCast]
        exact Nat.lt_of_le_of_lt (Nat.div_le_self _ _) h2
      rw [Int.natAbs_natCast] at this
      exact this
  by_cases h : 0 < b
  · exact key t b h h1 h2
  · rw [← divInt_flip t b hb]
    exact key (-t) (-b) (by omega) (by rw [Int.natAbs_neg]; exact h1) (by rw [Int.natAbs_neg]; exact h2)
theorem add_eq (p q : Rat) : Rat.divInt (p.num * q.den + q.num * p.den) (p.den * q.den) = p + q := by
  have h1 := den_pos p
  have h2 := den_pos q
  rw [← Rat.divInt_add_divInt p.num q.num (by omega) (by omega), Rat.num_divInt_den, Rat.num_divInt_den]
theorem sub_eq (p q : Rat) : Rat.divInt (p.num * q.den - q.num * p.den) (p.den * q.den) = p - q := by
  have h1 := den_pos p
  have h2 := den_pos q
  rw [← Rat.divInt_sub_divInt p.num q.num (by omega) (by omega), Rat.num_divInt_den, Rat.num_divInt_den]
theorem mul_eq (p q : Rat) : Rat.divInt (p.num * q.num) (p.den * q.den) = p * q := by
  rw [← Rat.divInt_mul_divInt p.num q.num, Rat.num_divInt_den, Rat.num_divInt_den]
theorem div_mul (p q : Rat) (hq : q.num ≠ 0) : Rat.divInt (p.num * q.den) (p.den * q.num) * q = p := by
  have h1 := den_pos p
  have h2 := den_pos q
  have e : Rat.divInt (p.num * q.den) (p.den * q.num) * q = Rat.divInt (p.num * q.den * q.num) (p.den * q.num * q.den) := by
    have := Rat.divInt_mul_divInt (p.num * q.den) q.num (d₁ := p.den * q.num) (d₂ := q.den)
    rw [Rat.num_divInt_den] at this
    exact this
  rw [e]
  have : p.den * q.num * q.den ≠ 0 := Int.mul_ne_zero (Int.mul_ne_zero (by omega) hq) (by omega)
  have e2 : Rat.divInt (p.num * q.den * q.num) (p.den * q.num * q.den) = Rat.divInt p.num p.den := (Rat.divInt_eq_divInt_iff this (by omega)).mpr (by
    simp only [Int.mul_comm, Int.mul_left_comm, Int.mul_assoc])
  rw [e2, Rat.num_divInt_den]
theorem plain_qd {k : Nat} (q : Rat) : plainD (k + 2) (qd q) := ⟨by simp, fun x hx => by
  simp only [List.mem_cons, List.not_mem_nil, or_false] at hx
  rcases hx with rfl | rfl <;> trivial⟩
theorem ne_qd (q : Rat) : pNe (qd q) (qd q) = some (.bool false) := ne_self (k := 2) (by decide) (plain_qd (k := 0) q)
end PV
end
section
set_option Elab.async false
set_option linter.all false
set_option maxRecDepth 100000
set_option maxHeartbeats 4000000
namespace PV
open PySem

/-! ### sorted lists of whole numbers, of pairs of them -/
def leI (a b : Int) : Bool := decide (a ≤ b)
def leP (a b : Int × Int) : Bool := decide (a.1 < b.1) || (decide (a.1 = b.1) && decide (a.2 ≤ b.2))
abbrev pr (x : Int × Int) : PyData := .tuple [.int x.1, .int x.2]
theorem sort_li (ns : List Int) : bSorted [li ns] = some (li (ns.mergeSort leI)) := by
  have ok : sortOk (ns.map PyData.int) := by
    refine ⟨fun d hd d' hd' => ?_, PySem.W.Sortable.others fun b => ⟨(fun e => nomatch e), fun xs e => nomatch e⟩, fun d hd => ?_⟩
    · obtain ⟨i, _, rfl⟩ := List.mem_map.mp hd
      obtain ⟨j, _, rfl⟩ := List.mem_map.mp hd'
      simp [PySem.W.alike]
    · obtain ⟨i, _, rfl⟩ := List.mem_map.mp hd
      exact Nat.zero_le _
  have e := PySem.W.sort_maps (r := leI) (s := leD) PyData.int (l := ns) fun a _ b _ => by
    unfold leI leD
    rw [PySem.W.dataLt_int]
    by_cases h : a ≤ b
    · rw [decide_eq_true h, decide_eq_false (by omega)]; rfl
    · rw [decide_eq_false h, decide_eq_true (by omega)]; rfl
  unfold bSorted
  exact (if_pos ok).trans (by rw [← e])
theorem dataLt_pr (x y : Int × Int) : PySem.W.dataLt (pr x) (pr y) = (decide (x.1 < y.1) || (decide (x.1 = y.1) && decide (x.2 < y.2))) := by
  unfold pr
  rw [PySem.W.dataLt_pair (by simp [PySem.W.alike]) (by simp [PySem.W.alike]), PySem.W.dataLt_int, PySem.W.dataLt_int]
  simp only [PyData.eqv, beq_iff_eq]
  by_cases h1 : x.1 = y.1
  · rw [if_pos h1]
    by_cases h2 : x.2 = y.2
    · rw [if_pos h2, decide_eq_false (show ¬ x.1 < y.1 by omega), decide_eq_false (show ¬ x.2 < y.2 by omega), Bool.and_false]; rfl
    · rw [if_neg h2, decide_eq_false (show ¬ x.1 < y.1 by omega), decide_eq_true h1]; rfl
  · rw [if_neg h1, decide_eq_false h1, Bool.false_and, Bool.or_false]
theorem sort_pr (ps : List (Int × Int)) : bSorted [.list (ps.map pr)] = some (.list ((ps.mergeSort leP).map pr)) := by
  have ok : sortOk (ps.map pr) := by
    refine ⟨fun d hd d' hd' => ?_, PySem.W.Sortable.tuples fun b => ⟨_, _, rfl⟩, fun d hd => ?_⟩
    · obtain ⟨i, _, rfl⟩ := List.mem_map.mp hd
      obtain ⟨j, _, rfl⟩ := List.mem_map.mp hd'
      simp [PySem.W.alike, PySem.W.alikeAll]
    · obtain ⟨i, _, rfl⟩ := List.mem_map.mp hd
      simp [PyData.depth, PyData.depthAll]
  have e := PySem.W.sort_maps (r := leP) (s := leD) pr (l := ps) fun a _ b _ => by
    unfold leP leD
    rw [dataLt_pr]
    by_cases h : a.1 < b.1
    · rw [decide_eq_true h, decide_eq_false (show ¬ b.1 < a.1 by omega), decide_eq_false (show ¬ b.1 = a.1 by omega)]; rfl
    · by_cases h2 : a.1 = b.1
      · rw [decide_eq_false h, decide_eq_true h2, decide_eq_false (show ¬ b.1 < a.1 by omega), decide_eq_true h2.symm]
        by_cases h3 : a.2 ≤ b.2
        · rw [decide_eq_true h3, decide_eq_false (show ¬ b.2 < a.2 by omega)]; rfl
        · rw [decide_eq_false h3, decide_eq_true (show b.2 < a.2 by omega)]; rfl
      · rw [decide_eq_false h, decide_eq_false h2, decide_eq_true (show b.1 < a.1 by omega)]; rfl
  unfold bSorted
  exact (if_pos ok).trans (by rw [← e])
theorem leI_sorted (ns : List Int) : List.Pairwise (fun a b => a ≤ b) (ns.mergeSort leI) := by
  have := List.pairwise_mergeSort (le := leI) (fun a b c h1 h2 => by
    unfold leI at *
    have := of_decide_eq_true h1
    have := of_decide_eq_true h2
    exact decide_eq_true (by omega)) (fun a b => by
    unfold leI
    rcases Int.le_total a b with h | h
    · rw [decide_eq_true h, Bool.true_or]
    · rw [decide_eq_true h, Bool.or_true]) ns
  exact this.imp fun h => of_decide_eq_true h
theorem leI_mem {ns : List Int} {x : Int} : x ∈ ns.mergeSort leI ↔ x ∈ ns := (List.mergeSort_perm ns leI).mem_iff
theorem leI_len (ns : List Int) : (ns.mergeSort leI).length = ns.length := (List.mergeSort_perm ns leI).length_eq
end PV
end
section
set_option Elab.async false
set_option linter.all false
set_option maxRecDepth 100000
set_option maxHeartbeats 4000000
namespace PV
open PySem PySem.Spec PySem.Calls PyProof.Rows L2

/-! ### list(range(..)), x[::-1] -/
def lrgOk (a b : Int) : Prop := -(2 ^ 62) ≤ a ∧ a < 2 ^ 62 ∧ -(2 ^ 62) ≤ b ∧ b < 2 ^ 62 ∧ (b - a).toNat ≤ 2 ^ 24
instance (a b : Int) : Decidable (lrgOk a b) := by unfold lrgOk; exact inferInstance
def pLrg : PyData → PyData → RE (List PyData)
  | .int a, .int b => if lrgOk a b then .ok (rangeL a (b - a).toNat) else .bad
  | _, _ => .bad
def mLrg1 (fa : Evn → RE PyData) (ρ : Evn) : RE (List PyData) := (fa ρ).bind fun d => pLrg (.int 0) d
def mLrg2 (fa fb : Evn → RE PyData) (ρ : Evn) : RE (List PyData) := (fa ρ).bind fun d => (fb ρ).bind fun e => pLrg d e
theorem rg_vd {K : PySem.W.Frag} {F : Hp} (a b : Int) : VdAll K F (rgV a b) (rangeL a (b - a).toNat) := by
  unfold rgV rangeL
  generalize List.range (b - a).toNat = l
  induction l with
  | nil => exact .nil
  | cons i r ih => exact .cons (.int _) ih
theorem rg_line {a b : Int} (h : lrgOk a b) : (rgV a b).length ≤ sizeLine := by
  rw [rgV_length, line_eq]; exact h.2.2.2.2
section
variable {X : Cx} {P : Pm} {a b : Expr} {fa fb : Evn → RE PyData} {p p2 pos pos2 : Pos}
theorem vf_lrg1 (hc : X.calm = true) (hg : Gl X "list") (hm : X.mg "list" = none) (hg2 : Gl X "range") (hm2 : X.mg "range" = none) (ha : VE X P a fa)
    (na : starEach [a] X.env = (false, eval a X.env) :: starEach [] X.env := by rfl) :
    VF X P (.Call (.Name "list" p) [.Call (.Name "range" p2) [a] [] pos2] [] pos) (mLrg1 fa) := PE_mono (pe_listRg hc hg hm (prg_1 hg2 hm2 ha na)) fun σ H Q h => by
  obtain ⟨ρ, F, hR, h⟩ := h
  refine OutF.first hR h fun d v F1 H1 e1 hv R1 h1 => ?_
  cases hv with
  | int n =>
    have h1' : OutF X P σ Q F1 H1 (if lrgOk 0 n then .ok (rangeL 0 (n - 0).toNat) else .bad) := h1
    by_cases hr : lrgOk 0 n
    · rw [if_pos hr] at h1'
      exact ⟨n, rfl, hr, OutF.new R1.fh h1' (rg_line hr) (rg_vd 0 n)⟩
    · rw [if_neg hr] at h1'; exact h1'.elim
  | _ => exact h1.elim
theorem vf_lrg2 (hc : X.calm = true) (hg : Gl X "list") (hm : X.mg "list" = none) (hg2 : Gl X "range") (hm2 : X.mg "range" = none) (ha : VE X P a fa) (hb : VE X P b fb)
    (na : starEach [a, b] X.env = (false, eval a X.env) :: starEach [b] X.env := by rfl) (nb : starEach [b] X.env = (false, eval b X.env) :: starEach [] X.env := by rfl) (hp : (backTo pos2 (starEach [b] X.env)).any (·.1) = false := by rfl) :
    VF X P (.Call (.Name "list" p) [.Call (.Name "range" p2) [a, b] [] pos2] [] pos) (mLrg2 fa fb) := PE_mono (pe_listRg hc hg hm (prg_2 hg2 hm2 ha hb na nb hp)) fun σ H Q h => by
  obtain ⟨ρ, F, hR, h⟩ := h
  refine OutF.first hR h fun d v F1 H1 e1 hv R1 h1 => ?_
  refine OutF.first R1 h1 fun d2 v2 F2 H2 e2 hv2 R2 h2 => ?_
  cases hv with
  | int i =>
    cases hv2 with
    | int n =>
      have h1' : OutF X P σ Q F2 H2 (if lrgOk i n then .ok (rangeL i (n - i).toNat) else .bad) := h2
      by_cases hr : lrgOk i n
      · rw [if_pos hr] at h1'
        exact ⟨i, n, rfl, rfl, hr, OutF.new R2.fh h1' (rg_line hr) (rg_vd i n)⟩
      · rw [if_neg hr] at h1'; exact h1'.elim
    | _ => exact h2.elim
  | _ => cases hv2 <;> exact h2.elim
/-- x[::-1] -/
theorem vf_revS {k : Nat} {p1 p3 : Pos} (ha : VE X P a fa) : VF X P (.Subscript a (.Slice none none (some (.UnaryOp .USub (.Constant (.int 1) k p1) p2)) p3) pos) (mBind fa pRevL) := PE_mono (L2.pe_revL ha) fun σ H Q h => by
  obtain ⟨ρ, F, hR, h⟩ := h
  refine OutF.first hR h fun d v F1 H1 e1 hv R1 h1 => ?_
  cases hv with
  | lst hs hz hd => exact ⟨_, _, rfl, R1.fh.seq hs, OutF.new R1.fh h1 (by rw [List.length_reverse]; exact hz) hd.reverse⟩
  | _ => exact h1.elim
end
@[simp] theorem e_mLrg1 (fa : Evn → RE PyData) (ρ : Evn) : mLrg1 fa ρ = (fa ρ).bind fun d => pLrg (.int 0) d := nr rfl
@[simp] theorem e_mLrg2 (fa fb : Evn → RE PyData) (ρ : Evn) : mLrg2 fa fb ρ = (fa ρ).bind fun d => (fb ρ).bind fun e => pLrg d e := nr rfl
@[simp] theorem d_lrg (a b : Int) : pLrg (.int a) (.int b) = if lrgOk a b then .ok (rangeL a (b - a).toNat) else .bad := nr rfl
end PV
end
section
set_option Elab.async false
set_option linter.all false
set_option maxRecDepth 100000
set_option maxHeartbeats 4000000
namespace PV
open PySem PySem.Spec PySem.Calls PyProof.Rows L2

/-! ### min, max of a list of alike data -/
def mmOk (ds : List PyData) : Prop := PySem.W.AlikeAll ds ∧ ∀ d ∈ ds, d.depth ≤ 60
open Classical in
noncomputable def bMinD : List PyData → Option PyData
  | [.list (x :: xs)] => if mmOk (x :: xs) then some (PySem.W.minD x xs) else none
  | _ => none
open Classical in
noncomputable def bMaxD : List PyData → Option PyData
  | [.list (x :: xs)] => if mmOk (x :: xs) then some (PySem.W.maxD x xs) else none
  | _ => none
theorem depthAll_mm : ∀ {ds : List PyData}, (∀ d ∈ ds, d.depth ≤ 60) → PyData.depthAll ds ≤ 60
  | [], _ => Nat.zero_le _
  | d :: r, h => by
    simp only [PyData.depthAll]
    exact Nat.max_le.mpr ⟨h d (List.mem_cons_self ..), depthAll_mm fun y hy => h y (List.mem_cons_of_mem _ hy)⟩
section
variable {X : Cx}
theorem vd_all_dp {F : Hp} : ∀ {vs : List V} {ds : List PyData}, VdAll X.K F vs ds → DpAll X.K F vs ds
  | _, _, .nil => .nil
  | _, _, .cons h t => .cons (Vd.dp _ _ h).1 (vd_all_dp t)
theorem cb_minD {k : Nat} (hr : Room k X.A) : CallR X (.builtin "min") (rCV X bMinD) := by
  intro pins s σ H xs us Q I r h
  obtain ⟨F, ds, d, sf, hv, hg, hq⟩ := h
  unfold bMinD at hg
  split at hg
  · rename_i e es
    by_cases hp : mmOk (e :: es)
    case neg => rw [if_neg hp] at hg; cases hg
    rw [if_pos hp] at hg
    cases hg
    obtain ⟨v, rfl, h1⟩ := vd1 hv
    cases h1 with
    | @lst a ys _ hs hz ha =>
      rw [Vals.ref1 r]
      obtain ⟨its, rv, hl, hz'⟩ := I.list (sf.seq hs)
      have hun := hr.un
      have hdp := depthAll_mm hp.2
      obtain ⟨as, ra⟩ := Dp.readsAll I (e :: es) ys its (vd_all_dp (VdAll.mono sf _ _ ha)) rv
      refine PySem.W.min_list_data hr.hd hl.isList (by rw [List.toList_toArray]; exact ra) hp.1 (by omega) fun i u h' tk bs hi hR hk => ?_
      have hi' : its[i]? = some u := by simpa using hi
      obtain ⟨bs2, r2, hlt, _⟩ := PySem.W.readsAll_at ra i u hi'
      have det := (reads_det (h := s.heap) (h' := h') (fun b o q _ => hk b o q) r2 hR).1
      have hj : i < (e :: es).length := hlt
      obtain ⟨y, hy1, hy2⟩ := ha.get (i := i) (d := (e :: es)[i]) (List.getElem?_eq_getElem hj)
      obtain ⟨u2, hu1, hu2⟩ := Vals.get rv hy1
      rw [hi'] at hu1
      cases hu1
      have ed : (e :: es)[i] = PySem.W.minD e es := by
        rw [det, List.getD_eq_getElem?_getD, List.getElem?_eq_getElem hj]; rfl
      rw [ed] at hy2
      exact ⟨y, H, I.kept hk, hu2, hq y H F (Ext.refl sf) hy2⟩
  · cases hg
theorem cb_maxD {k : Nat} (hr : Room k X.A) : CallR X (.builtin "max") (rCV X bMaxD) := by
  intro pins s σ H xs us Q I r h
  obtain ⟨F, ds, d, sf, hv, hg, hq⟩ := h
  unfold bMaxD at hg
  split at hg
  · rename_i e es
    by_cases hp : mmOk (e :: es)
    case neg => rw [if_neg hp] at hg; cases hg
    rw [if_pos hp] at hg
    cases hg
    obtain ⟨v, rfl, h1⟩ := vd1 hv
    cases h1 with
    | @lst a ys _ hs hz ha =>
      rw [Vals.ref1 r]
      obtain ⟨its, rv, hl, hz'⟩ := I.list (sf.seq hs)
      have hun := hr.un
      have hdp := depthAll_mm hp.2
      obtain ⟨as, ra⟩ := Dp.readsAll I (e :: es) ys its (vd_all_dp (VdAll.mono sf _ _ ha)) rv
      refine PySem.W.max_list_data hr.hd hl.isList (by rw [List.toList_toArray]; exact ra) hp.1 (by omega) fun i u h' tk bs hi hR hk => ?_
      have hi' : its[i]? = some u := by simpa using hi
      obtain ⟨bs2, r2, hlt, _⟩ := PySem.W.readsAll_at ra i u hi'
      have det := (reads_det (h := s.heap) (h' := h') (fun b o q _ => hk b o q) r2 hR).1
      have hj : i < (e :: es).length := hlt
      obtain ⟨y, hy1, hy2⟩ := ha.get (i := i) (d := (e :: es)[i]) (List.getElem?_eq_getElem hj)
      obtain ⟨u2, hu1, hu2⟩ := Vals.get rv hy1
      rw [hi'] at hu1
      cases hu1
      have ed : (e :: es)[i] = PySem.W.maxD e es := by
        rw [det, List.getD_eq_getElem?_getD, List.getElem?_eq_getElem hj]; rfl
      rw [ed] at hy2
      exact ⟨y, H, I.kept hk, hu2, hq y H F (Ext.refl sf) hy2⟩
  · cases hg
end

theorem lt_not_le (x y : Int × Int) : PySem.W.dataLt (pr x) (pr y) = !leP y x := by
  rw [dataLt_pr]
  unfold leP
  rcases Int.lt_trichotomy x.1 y.1 with h | h | h
  · rw [decide_eq_true h, decide_eq_false (show ¬ y.1 < x.1 by omega), decide_eq_false (show ¬ y.1 = x.1 by omega)]; rfl
  · rw [decide_eq_false (show ¬ x.1 < y.1 by omega), decide_eq_true h, decide_eq_false (show ¬ y.1 < x.1 by omega), decide_eq_true h.symm]
    by_cases c : x.2 < y.2
    · rw [decide_eq_true c, decide_eq_false (show ¬ y.2 ≤ x.2 by omega)]; rfl
    · rw [decide_eq_false c, decide_eq_true (show y.2 ≤ x.2 by omega)]; rfl
  · rw [decide_eq_false (show ¬ x.1 < y.1 by omega), decide_eq_false (show ¬ x.1 = y.1 by omega), decide_eq_true h]; rfl
theorem leP_refl (x : Int × Int) : leP x x = true := by
  unfold leP
  rw [decide_eq_true (show x.1 = x.1 from rfl), decide_eq_true (Int.le_refl _)]; simp
theorem leP_iff (x y : Int × Int) : leP x y = true ↔ x.1 < y.1 ∨ (x.1 = y.1 ∧ x.2 ≤ y.2) := by
  unfold leP
  simp
theorem leP_trans {x y z : Int × Int} (h1 : leP x y = true) (h2 : leP y z = true) : leP x z = true := by
  rw [leP_iff] at *
  omega
theorem leP_total (x y : Int × Int) : leP x y = true ∨ leP y x = true := by
  rw [leP_iff, leP_iff]
  omega
theorem minD_pr (p : Int × Int) : ∀ ps : List (Int × Int), ∃ m, m ∈ p :: ps ∧ PySem.W.minD (pr p) (ps.map pr) = pr m ∧ ∀ y ∈ p :: ps, leP m y = true := by
  intro ps
  induction ps generalizing p with
  | nil => exact ⟨p, List.mem_cons_self .., rfl, fun y hy => by
      rw [List.mem_singleton] at hy
      rw [hy]; exact leP_refl p⟩
  | cons q r ih =>
    have e : PySem.W.minD (pr p) ((q :: r).map pr) = PySem.W.minD (if PySem.W.dataLt (pr q) (pr p) then pr q else pr p) (r.map pr) := rfl
    rw [e, lt_not_le]
    by_cases c : leP p q = true
    · rw [c]
      obtain ⟨m, h1, h2, h3⟩ := ih p
      refine ⟨m, ?_, by simpa using h2, fun y hy => ?_⟩
      · rcases List.mem_cons.mp h1 with h | h
        · rw [h]; exact List.mem_cons_self ..
        · exact List.mem_cons_of_mem _ (List.mem_cons_of_mem _ h)
      · rcases List.mem_cons.mp hy with h | h
        · rw [h]; exact h3 p (List.mem_cons_self ..)
        · rcases List.mem_cons.mp h with h | h
          · rw [h]; exact leP_trans (h3 p (List.mem_cons_self ..)) c
          · exact h3 y (List.mem_cons_of_mem _ h)
    · have c' : leP p q = false := by simpa using c
      rw [c']
      obtain ⟨m, h1, h2, h3⟩ := ih q
      refine ⟨m, List.mem_cons_of_mem _ h1, by simpa using h2, fun y hy => ?_⟩
      rcases List.mem_cons.mp hy with h | h
      · rw [h]
        refine leP_trans (h3 q (List.mem_cons_self ..)) ?_
        rcases leP_total p q with t | t
        · exact absurd t c
        · exact t
      · exact h3 y h
theorem min_pr {ps : List (Int × Int)} (h : ps ≠ []) : ∃ m, m ∈ ps ∧ bMinD [.list (ps.map pr)] = some (pr m) ∧ ∀ y ∈ ps, leP m y = true := by
  cases ps with
  | nil => exact absurd rfl h
  | cons p r =>
    obtain ⟨m, h1, h2, h3⟩ := minD_pr p r
    have ok : mmOk (pr p :: r.map pr) := by
      have hm : ∀ d ∈ pr p :: r.map pr, ∃ x, d = pr x := fun d hd => by
        rcases List.mem_cons.mp hd with e | e
        · exact ⟨p, e⟩
        · obtain ⟨x, _, rfl⟩ := List.mem_map.mp e
          exact ⟨x, rfl⟩
      refine ⟨⟨fun d hd d' hd' => ?_, fun d hd => ?_⟩, fun d hd => ?_⟩
      · obtain ⟨x, rfl⟩ := hm d hd
        obtain ⟨y, rfl⟩ := hm d' hd'
        simp [PySem.W.alike, PySem.W.alikeAll]
      · obtain ⟨x, rfl⟩ := hm d hd
        exact fun e => nomatch e
      · obtain ⟨x, rfl⟩ := hm d hd
        simp [PyData.depth, PyData.depthAll]
    refine ⟨m, h1, ?_, h3⟩
    rw [← h2]
    unfold bMinD
    exact if_pos ok
end PV
end
section
set_option Elab.async false
set_option linter.all false
set_option maxRecDepth 100000
set_option maxHeartbeats 4000000
namespace Law
open PySem PySem.Spec PyProof.Rows L2 PV
def top (i : Nat) : Stmt := PySem.Challenge.pw_ropesbear_k65_whole_first_worn_pieces.main.body.getD i (.Pass ⟨0, 0, 0, 0⟩)
structure Bi (mg : Str → Option Value) : Prop where
  l_bool : mg "bool" = none
  l_int : mg "int" = none
  l_isinstance : mg "isinstance" = none
  l_len : mg "len" = none
  l_list : mg "list" = none
  l_max : mg "max" = none
  l_min : mg "min" = none
  l_range : mg "range" = none
  l_sorted : mg "sorted" = none
  l_str : mg "str" = none
  l_sum : mg "sum" = none
  l_tuple : mg "tuple" = none
abbrev s_law_draws : Stmt := top 9
abbrev N_law_draws : List Str := ["script", "at", "count", "cell", "great", "found", "k", "mixed"]
theorem sc_law_draws : FnScope N_law_draws ["script", "at", "count"] (defScope s_law_draws) := ⟨rfl, rfl, rfl, by decide +kernel, rfl, by decide +kernel, by decide +kernel⟩
noncomputable def l_law_draws_0 : Evn → RS :=
  (sIf (mT (mGet 4))
    (sThen (sApp 5 (m2 pMod (mCall bInt (mCons (mGet 3) mNil)) (mC (.int 5040))))
    (sSet 3 (m2 pDiv (mGet 3) (mC (.int 5040)))))
    (sThen (sSet 7 (m2 pMod (mCall bInt (mCons (m2 pAdd (m2 pAdd (m2 pMul (mGet 3) (mC (.int 69621))) (m2 pMul (m2 pAdd (mGet 6) (m2 pMul (mC (.int 64)) (mGet 1))) (mC (.int 48271)))) (mC (.int 13))) mNil)) (mC (.int 2147483647))))
    (sThen (sSet 7 (m2 pMod (mCall bInt (mCons (m2 pAdd (m2 pAdd (m2 pMul (mGet 7) (mGet 7)) (m2 pMul (mGet 7) (mC (.int 40014)))) (m2 pMul (mGet 6) (mC (.int 7919)))) mNil)) (mC (.int 2147483563))))
    (sApp 5 (m2 pMod (mCall bInt (mCons (m2 pDiv (mGet 7) (mC (.int 64))) mNil)) (mC (.int 5040)))))))
theorem u_law_draws_0 (ρ : Evn) : l_law_draws_0 ρ = (sIf (mT (mGet 4))
    (sThen (sApp 5 (m2 pMod (mCall bInt (mCons (mGet 3) mNil)) (mC (.int 5040))))
    (sSet 3 (m2 pDiv (mGet 3) (mC (.int 5040)))))
    (sThen (sSet 7 (m2 pMod (mCall bInt (mCons (m2 pAdd (m2 pAdd (m2 pMul (mGet 3) (mC (.int 69621))) (m2 pMul (m2 pAdd (mGet 6) (m2 pMul (mC (.int 64)) (mGet 1))) (mC (.int 48271)))) (mC (.int 13))) mNil)) (mC (.int 2147483647))))
    (sThen (sSet 7 (m2 pMod (mCall bInt (mCons (m2 pAdd (m2 pAdd (m2 pMul (mGet 7) (mGet 7)) (m2 pMul (mGet 7) (mC (.int 40014)))) (m2 pMul (mGet 6) (mC (.int 7919)))) mNil)) (mC (.int 2147483563))))
    (sApp 5 (m2 pMod (mCall bInt (mCons (m2 pDiv (mGet 7) (mC (.int 64))) mNil)) (mC (.int 5040))))))) ρ := nr rfl
noncomputable def b_law_draws : Evn → RS :=
  (sThen (sSet 3 (mC (.int 0)))
  (sThen (sIf (mB (m2 pLt (mGet 1) (mCall bLen (mCons (mGet 0) mNil))))
    (sSet 3 (mCall bInt (mCons (m2 pIdx (mGet 0) (mGet 1)) mNil)))
    sNx)
  (sThen (sSet 4 (m2 pGe (mGet 3) (m2 pPow (mC (.int 10)) (mC (.int 18)))))
  (sThen (sSetO 5 (mDsp mNil))
  (sThen (sFor (mWk rng1 (mCons (mGet 2) mNil)) (gN 6) l_law_draws_0)
  (fun ρ => (sRet (mGet 5)) (freeze 5 ρ)))))))
noncomputable def m_law_draws : List PyData → RE PyData := fnM 3 8 b_law_draws
theorem ok_law_draws {P : Program} {w : World} {K : PySem.W.Frag} {mg : Str → Option Value} {base : Heap} {f : Addr} {fd : FuncData} (F : FnP K "_law_draws" s_law_draws f fd) (gl : mg "_law_draws" = some (.ref f)) (bi : Bi mg) : Cal P w K mg base 1 "_law_draws" ["script", "at", "count"] m_law_draws :=
  Cal.of (k := 0) F gl sc_law_draws (fun _ _ _ _ _ _ us hl => match us, hl with | [_, _, _], _ => rfl) fun cdv A outer s H E F0 hr => by
    have nd := sc_law_draws.nd; have tk := takesD (P := P) (w := w) (K := K) (mg := mg) (base := base) (N := N_law_draws) (qual := "_law_draws") (scope := defScope s_law_draws) (f := f) (cdv := cdv) (A := A) (outer := outer) (s := s) (H := H) (E := E); have po := passes_of (X := cxOf (L2.CX P w) P w K mg base N_law_draws "_law_draws" (defScope s_law_draws) f cdv A outer s H E) rfl; exact
    (vs_cons (vs_set 3 nd ve_int)
  (vs_cons (vs_if (vt_cmp opv_lt (ve_var 1) (ve_callB cb_len rfl bi.l_len rfl (va_cons (ve_var 0) va_nil))) (vs_one (vs_set 3 nd (ve_callTy cb_int rfl bi.l_int rfl (va_cons (ve_ix (ve_var 0) (ve_var 1)) va_nil)))) vs_nil)
  (vs_cons (vs_set 4 nd (ve_cmp opv_ge (ve_var 3) (ve_op opv_pow ve_int ve_int)))
  (vs_cons (vs_setO 5 nd (vf_lst va_nil))
  (vs_cons (vs_for po rfl (vi_range1 rfl bi.l_range (va_cons (ve_var 2) va_nil)) (vg_name 6 nd) (vs_one (vs_if (vt_truth (ve_var 4)) (vs_cons (vs_append 5 (ve_op opv_mod (ve_callTy cb_int rfl bi.l_int rfl (va_cons (ve_var 3) va_nil)) ve_int))
    (vs_one (vs_set 3 nd (ve_op opv_div (ve_var 3) ve_int)))) (vs_cons (vs_set 7 nd (ve_op opv_mod (ve_callTy cb_int rfl bi.l_int rfl (va_cons (ve_op opv_add (ve_op opv_add (ve_op opv_mul (ve_var 3) ve_int) (ve_op opv_mul (ve_op opv_add (ve_var 6) (ve_op opv_mul ve_int (ve_var 1))) ve_int)) ve_int) va_nil)) ve_int))
    (vs_cons (vs_set 7 nd (ve_op opv_mod (ve_callTy cb_int rfl bi.l_int rfl (va_cons (ve_op opv_add (ve_op opv_add (ve_op opv_mul (ve_var 7) (ve_var 7)) (ve_op opv_mul (ve_var 7) ve_int)) (ve_op opv_mul (ve_var 6) ve_int)) va_nil)) ve_int))
    (vs_one (vs_append 5 (ve_op opv_mod (ve_callTy cb_int rfl bi.l_int rfl (va_cons (ve_op opv_div (ve_var 7) ve_int) va_nil)) ve_int))))))))
  (vs_one (vs_freeze 5 (vs_ret (ve_var 5)))))))))
abbrev s_law_loop : Stmt := top 12
abbrev N_law_loop : List Str := ["script", "at", "most", "picks", "pieces", "wheels", "place", "k", "grips", "piece"]
theorem sc_law_loop : FnScope N_law_loop ["script", "at", "most"] (defScope s_law_loop) := ⟨rfl, rfl, rfl, by decide +kernel, rfl, by decide +kernel, by decide +kernel⟩
noncomputable def l_law_loop_0 : Evn → RS :=
  (sIf (mAndB (mB (m2 pLt (mGet 6) (mGet 4))) (mB (m2 pLt (mBor 5 (mCall bLen (mCons (mGet 5) mNil))) (mC (.int 20)))))
    (sThen (sApp 5 (mSeq mTup (mCons (mGet 6) (mCons (m2 pAdd (mC (.int 1)) (m2 pMod (m2 pIdx (mGet 3) (m2 pAdd (mC (.int 3)) (m2 pMul (mC (.int 2)) (mGet 7)))) (m2 pIdx (mSeq mLst (mCons (mC (.int 1)) (mCons (mC (.int 3)) (mCons (mC (.int 900)) mNil)))) (m2 pMod (m2 pIdx (mGet 3) (mC (.int 15))) (mC (.int 3)))))) (mCons (m2 pMod (m2 pIdx (mGet 3) (m2 pAdd (mC (.int 4)) (m2 pMul (mC (.int 2)) (mGet 7)))) (m2 pIdx (mSeq mLst (mCons (mC (.int 1)) (mCons (mC (.int 4)) (mCons (mC (.int 50)) mNil)))) (m2 pMod (m2 pIdx (mGet 3) (mC (.int 16))) (mC (.int 3))))) mNil)))))
    (sSet 6 (m2 pAdd (m2 pAdd (mGet 6) (mC (.int 1))) (m2 pMod (m2 pIdx (mGet 3) (m2 pAdd (mC (.int 17)) (mGet 7))) (mCall bMax (mCons (mC (.int 1)) (mCons (m2 pDiv (mGet 4) (mC (.int 3))) mNil)))))))
    sNx)
theorem u_law_loop_0 (ρ : Evn) : l_law_loop_0 ρ = (sIf (mAndB (mB (m2 pLt (mGet 6) (mGet 4))) (mB (m2 pLt (mBor 5 (mCall bLen (mCons (mGet 5) mNil))) (mC (.int 20)))))
    (sThen (sApp 5 (mSeq mTup (mCons (mGet 6) (mCons (m2 pAdd (mC (.int 1)) (m2 pMod (m2 pIdx (mGet 3) (m2 pAdd (mC (.int 3)) (m2 pMul (mC (.int 2)) (mGet 7)))) (m2 pIdx (mSeq mLst (mCons (mC (.int 1)) (mCons (mC (.int 3)) (mCons (mC (.int 900)) mNil)))) (m2 pMod (m2 pIdx (mGet 3) (mC (.int 15))) (mC (.int 3)))))) (mCons (m2 pMod (m2 pIdx (mGet 3) (m2 pAdd (mC (.int 4)) (m2 pMul (mC (.int 2)) (mGet 7)))) (m2 pIdx (mSeq mLst (mCons (mC (.int 1)) (mCons (mC (.int 4)) (mCons (mC (.int 50)) mNil)))) (m2 pMod (m2 pIdx (mGet 3) (mC (.int 16))) (mC (.int 3))))) mNil)))))
    (sSet 6 (m2 pAdd (m2 pAdd (mGet 6) (mC (.int 1))) (m2 pMod (m2 pIdx (mGet 3) (m2 pAdd (mC (.int 17)) (mGet 7))) (mCall bMax (mCons (mC (.int 1)) (mCons (m2 pDiv (mGet 4) (mC (.int 3))) mNil)))))))
    sNx) ρ := nr rfl
noncomputable def b_law_loop : Evn → RS :=
  (sThen (sSet 3 (mSeq m_law_draws (mCons (mGet 0) (mCons (mGet 1) (mCons (mC (.int 60)) mNil)))))
  (sThen (sSet 4 (m2 pAdd (mC (.int 2)) (m2 pMod (m2 pIdx (mGet 3) (mC (.int 0))) (m2 pSub (mGet 2) (mC (.int 1))))))
  (sThen (sSetO 5 (mDsp mNil))
  (sThen (sSet 6 (m2 pMod (m2 pIdx (mGet 3) (mC (.int 1))) (mGet 4)))
  (sThen (sFor (mWk rng1 (mCons (m2 pAdd (mC (.int 1)) (m2 pMod (m2 pIdx (mGet 3) (mC (.int 2))) (mC (.int 6)))) mNil)) (gN 7) l_law_loop_0)
  (sThen (sSetL 8 (mLc (mWk rng1 (mCons (mGet 4) mNil)) (gN 9) (mB (m2 pEq (m2 pMod (m2 pIdx (mGet 3) (m2 pAdd (mC (.int 24)) (m2 pMod (mGet 9) (mC (.int 36))))) (m2 pIdx (mSeq mLst (mCons (mC (.int 2)) (mCons (mC (.int 5)) (mCons (mC (.int 40)) mNil)))) (m2 pMod (m2 pIdx (mGet 3) (mC (.int 18))) (mC (.int 3))))) (mC (.int 0)))) (mGet 9) [9]))
  (fun ρ => (sRet (mSeq mTup (mCons (mGet 4) (mCons (mGet 5) (mCons (mGet 8) mNil))))) (freeze 5 ρ))))))))
noncomputable def m_law_loop : List PyData → RE PyData := fnM 3 10 b_law_loop
theorem ok_law_loop {P : Program} {w : World} {K : PySem.W.Frag} {mg : Str → Option Value} {base : Heap} {f : Addr} {fd : FuncData} (F : FnP K "_law_loop" s_law_loop f fd) (gl : mg "_law_loop" = some (.ref f)) (bi : Bi mg) (C_law_draws : Cal P w K mg base 1 "_law_draws" ["script", "at", "count"] m_law_draws) : Cal P w K mg base 2 "_law_loop" ["script", "at", "most"] m_law_loop :=
  Cal.of (k := 1) F gl sc_law_loop (fun _ _ _ _ _ _ us hl => match us, hl with | [_, _, _], _ => rfl) fun cdv A outer s H E F0 hr => by
    have nd := sc_law_loop.nd; have tk := takesD (P := P) (w := w) (K := K) (mg := mg) (base := base) (N := N_law_loop) (qual := "_law_loop") (scope := defScope s_law_loop) (f := f) (cdv := cdv) (A := A) (outer := outer) (s := s) (H := H) (E := E); have po := passes_of (X := cxOf (L2.CX P w) P w K mg base N_law_loop "_law_loop" (defScope s_law_loop) f cdv A outer s H E) rfl; exact
    (vs_cons (vs_set 3 nd (ve_cal C_law_draws hr tk (va_cons (ve_var 0) (va_cons (ve_var 1) (va_cons ve_int va_nil)))))
  (vs_cons (vs_set 4 nd (ve_op opv_add ve_int (ve_op opv_mod (ve_ix (ve_var 3) ve_int) (ve_op opv_sub (ve_var 2) ve_int))))
  (vs_cons (vs_setO 5 nd (vf_lst va_nil))
  (vs_cons (vs_set 6 nd (ve_op opv_mod (ve_ix (ve_var 3) ve_int) (ve_var 4)))
  (vs_cons (vs_for po rfl (vi_range1 rfl bi.l_range (va_cons (ve_op opv_add ve_int (ve_op opv_mod (ve_ix (ve_var 3) ve_int) ve_int)) va_nil)) (vg_name 7 nd) (vs_one (vs_if (VW.t (vw_and (vt_cmp opv_lt (ve_var 6) (ve_var 4)) (vw_and1 (vt_cmp opv_lt (ve_bor 5 (ve_callB cb_len rfl bi.l_len rfl (va_cons (ve_var 5) va_nil))) ve_int)))) (vs_cons (vs_append 5 (ve_tup (va_cons (ve_var 6) (va_cons (ve_op opv_add ve_int (ve_op opv_mod (ve_ix (ve_var 3) (ve_op opv_add ve_int (ve_op opv_mul ve_int (ve_var 7)))) (ve_ix (ve_lst (va_cons ve_int (va_cons ve_int (va_cons ve_int va_nil)))) (ve_op opv_mod (ve_ix (ve_var 3) ve_int) ve_int)))) (va_cons (ve_op opv_mod (ve_ix (ve_var 3) (ve_op opv_add ve_int (ve_op opv_mul ve_int (ve_var 7)))) (ve_ix (ve_lst (va_cons ve_int (va_cons ve_int (va_cons ve_int va_nil)))) (ve_op opv_mod (ve_ix (ve_var 3) ve_int) ve_int))) va_nil)))))
    (vs_one (vs_set 6 nd (ve_op opv_add (ve_op opv_add (ve_var 6) ve_int) (ve_op opv_mod (ve_ix (ve_var 3) (ve_op opv_add ve_int (ve_var 7))) (ve_callB (cb_max rfl) rfl bi.l_max rfl (va_cons ve_int (va_cons (ve_op opv_div (ve_var 4) ve_int) va_nil)))))))) vs_nil)))
  (vs_cons (vs_lcL 8 rfl nd (vi_range1 rfl bi.l_range (va_cons (ve_var 4) va_nil)) (blkOk_by (own := [("piece", 9)]) (N := N_law_loop) (sc := defScope s_law_loop) (by decide +kernel)) (fun _ _ _ _ _ => (vg_name 9 nd)) (fun _ _ _ _ _ => (vts_one (vt_cmp (opv_eq hr) (ve_op opv_mod (ve_ix (ve_var 3) (ve_op opv_add ve_int (ve_op opv_mod (ve_var 9) ve_int))) (ve_ix (ve_lst (va_cons ve_int (va_cons ve_int (va_cons ve_int va_nil)))) (ve_op opv_mod (ve_ix (ve_var 3) ve_int) ve_int))) ve_int))) (fun _ _ _ _ _ => (ve_var 9)))
  (vs_one (vs_freeze 5 (vs_ret (ve_tup (va_cons (ve_var 4) (va_cons (ve_var 5) (va_cons (ve_var 8) va_nil)))))))))))))
abbrev s_bends_at : Stmt := top 2
abbrev N_bends_at : List Str := ["loop", "wheel", "piece", "_", "bend", "more"]
theorem sc_bends_at : FnScope N_bends_at ["loop", "wheel", "piece"] (defScope s_bends_at) := ⟨rfl, rfl, rfl, by decide +kernel, rfl, by decide +kernel, by decide +kernel⟩
noncomputable def b_bends_at : Evn → RS :=
  (sThen (sAsg (mGet 1) (gT 3 (gC (gN 3) (gC (gN 4) (gC (gN 5) gE)))))
  (sThen (sIf (mB (m2 pIn (mGet 2) (m2 pIdx (mGet 0) (mC (.int 2)))))
    (sRet (m2 pAdd (mGet 4) (mGet 5)))
    sNx)
  (sRet (mGet 4))))
noncomputable def m_bends_at : List PyData → RE PyData := fnM 3 6 b_bends_at
theorem ok_bends_at {P : Program} {w : World} {K : PySem.W.Frag} {mg : Str → Option Value} {base : Heap} {f : Addr} {fd : FuncData} (F : FnP K "bends_at" s_bends_at f fd) (gl : mg "bends_at" = some (.ref f)) : Cal P w K mg base 1 "bends_at" ["loop", "wheel", "piece"] m_bends_at :=
  Cal.of (k := 0) F gl sc_bends_at (fun _ _ _ _ _ _ us hl => match us, hl with | [_, _, _], _ => rfl) fun cdv A outer s H E F0 hr => by
    have nd := sc_bends_at.nd; have tk := takesD (P := P) (w := w) (K := K) (mg := mg) (base := base) (N := N_bends_at) (qual := "bends_at") (scope := defScope s_bends_at) (f := f) (cdv := cdv) (A := A) (outer := outer) (s := s) (H := H) (E := E); have po := passes_of (X := cxOf (L2.CX P w) P w K mg base N_bends_at "bends_at" (defScope s_bends_at) f cdv A outer s H E) rfl; exact
    (vs_cons (vs_asg (ve_var 1) (vg_tup rfl (vgs_cons (vg_name 3 nd) (vgs_cons (vg_name 4 nd) (vgs_cons (vg_name 5 nd) vgs_nil)))))
  (vs_cons (vs_if (vt_cmp (opv_in hr) (ve_var 2) (ve_ix (ve_var 0) ve_int)) (vs_one (vs_ret (ve_op opv_add (ve_var 4) (ve_var 5)))) vs_nil)
  (vs_one (vs_ret (ve_var 4)))))
abbrev s_turn_bends : Stmt := top 5
abbrev N_turn_bends : List Str := ["loop", "piece", "pieces", "wheels", "_", "wheel"]
theorem sc_turn_bends : FnScope N_turn_bends ["loop", "piece"] (defScope s_turn_bends) := ⟨rfl, rfl, rfl, by decide +kernel, rfl, by decide +kernel, by decide +kernel⟩
noncomputable def b_turn_bends : Evn → RS :=
  (sThen (sAsg (mGet 0) (gT 3 (gC (gN 2) (gC (gN 3) (gC (gN 4) gE)))))
  (sRet (mCall bSorted (mCons (mL (mLc (mItems (mGet 3)) (gN 5) mYes (mSeq mTup (mCons (m2 pAdd (m2 pMod (m2 pSub (m2 pSub (m2 pIdx (mGet 5) (mC (.int 0))) (mGet 1)) (mC (.int 1))) (mGet 2)) (mC (.int 1))) (mCons (mSeq m_bends_at (mCons (mGet 0) (mCons (mGet 5) (mCons (mGet 1) mNil)))) mNil))) [5])) mNil))))
noncomputable def m_turn_bends : List PyData → RE PyData := fnM 2 6 b_turn_bends
theorem ok_turn_bends {P : Program} {w : World} {K : PySem.W.Frag} {mg : Str → Option Value} {base : Heap} {f : Addr} {fd : FuncData} (F : FnP K "turn_bends" s_turn_bends f fd) (gl : mg "turn_bends" = some (.ref f)) (bi : Bi mg) (C_bends_at : Cal P w K mg base 1 "bends_at" ["loop", "wheel", "piece"] m_bends_at) : Cal P w K mg base 2 "turn_bends" ["loop", "piece"] m_turn_bends :=
  Cal.of (k := 1) F gl sc_turn_bends (fun _ _ _ _ _ _ us hl => match us, hl with | [_, _], _ => rfl) fun cdv A outer s H E F0 hr => by
    have nd := sc_turn_bends.nd; have tk := takesD (P := P) (w := w) (K := K) (mg := mg) (base := base) (N := N_turn_bends) (qual := "turn_bends") (scope := defScope s_turn_bends) (f := f) (cdv := cdv) (A := A) (outer := outer) (s := s) (H := H) (E := E); have po := passes_of (X := cxOf (L2.CX P w) P w K mg base N_turn_bends "turn_bends" (defScope s_turn_bends) f cdv A outer s H E) rfl; exact
    (vs_cons (vs_asg (ve_var 0) (vg_tup rfl (vgs_cons (vg_name 2 nd) (vgs_cons (vg_name 3 nd) (vgs_cons (vg_name 4 nd) vgs_nil)))))
  (vs_one (vs_ret (ve_callB (cb_sorted hr) (by rfl) bi.l_sorted (by rfl) (va_cons (VF.v (vf_lc rfl nd (vi_items (ve_var 3)) (blkOk_by (own := [("wheel", 5)]) (N := N_turn_bends) (sc := defScope s_turn_bends) (by decide +kernel)) (fun _ _ _ _ _ => (vg_name 5 nd)) (fun _ _ _ _ _ => vts_nil) (fun _ _ _ _ _ => (ve_tup (va_cons (ve_op opv_add (ve_op opv_mod (ve_op opv_sub (ve_op opv_sub (ve_ix (ve_var 5) ve_int) (ve_var 1)) ve_int) (ve_var 2)) ve_int) (va_cons (ve_cal C_bends_at hr takesN (va_cons (ve_var 0) (va_cons (ve_var 5) (va_cons (ve_var 1) va_nil)))) va_nil)))))) va_nil)))))
abbrev s_turn_wear : Stmt := top 4
abbrev N_turn_wear : List Str := ["loop", "piece", "wheel"]
theorem sc_turn_wear : FnScope N_turn_wear ["loop", "piece"] (defScope s_turn_wear) := ⟨rfl, rfl, rfl, by decide +kernel, rfl, by decide +kernel, by decide +kernel⟩
noncomputable def b_turn_wear : Evn → RS :=
  (sRet (mCall bSum (mCons (mL (mLc (mItems (m2 pIdx (mGet 0) (mC (.int 1)))) (gN 2) mYes (mSeq m_bends_at (mCons (mGet 0) (mCons (mGet 2) (mCons (mGet 1) mNil)))) [2])) mNil)))
noncomputable def m_turn_wear : List PyData → RE PyData := fnM 2 3 b_turn_wear
theorem ok_turn_wear {P : Program} {w : World} {K : PySem.W.Frag} {mg : Str → Option Value} {base : Heap} {f : Addr} {fd : FuncData} (F : FnP K "turn_wear" s_turn_wear f fd) (gl : mg "turn_wear" = some (.ref f)) (bi : Bi mg) (C_bends_at : Cal P w K mg base 1 "bends_at" ["loop", "wheel", "piece"] m_bends_at) : Cal P w K mg base 2 "turn_wear" ["loop", "piece"] m_turn_wear :=
  Cal.of (k := 1) F gl sc_turn_wear (fun _ _ _ _ _ _ us hl => match us, hl with | [_, _], _ => rfl) fun cdv A outer s H E F0 hr => by
    have nd := sc_turn_wear.nd; have tk := takesD (P := P) (w := w) (K := K) (mg := mg) (base := base) (N := N_turn_wear) (qual := "turn_wear") (scope := defScope s_turn_wear) (f := f) (cdv := cdv) (A := A) (outer := outer) (s := s) (H := H) (E := E); have po := passes_of (X := cxOf (L2.CX P w) P w K mg base N_turn_wear "turn_wear" (defScope s_turn_wear) f cdv A outer s H E) rfl; exact
    (vs_one (vs_ret (ve_callB (cb_sum rfl) rfl bi.l_sum rfl (va_cons (VF.v (vf_lc rfl nd (vi_items (ve_ix (ve_var 0) ve_int)) (blkOk_by (own := [("wheel", 2)]) (N := N_turn_wear) (sc := defScope s_turn_wear) (by decide +kernel)) (fun _ _ _ _ _ => (vg_name 2 nd)) (fun _ _ _ _ _ => vts_nil) (fun _ _ _ _ _ => (ve_cal C_bends_at hr takesN (va_cons (ve_var 0) (va_cons (ve_var 2) (va_cons (ve_var 1) va_nil))))))) va_nil))))
abbrev s_worn_beat : Stmt := top 6
abbrev N_worn_beat : List Str := ["loop", "piece", "most", "turns", "lacking", "found", "beat", "bends"]
theorem sc_worn_beat : FnScope N_worn_beat ["loop", "piece", "most"] (defScope s_worn_beat) := ⟨rfl, rfl, rfl, by decide +kernel, rfl, by decide +kernel, by decide +kernel⟩
noncomputable def l_worn_beat_0 : Evn → RS :=
  (sIf (mB (m2 pGt (mGet 4) (mC (.int 0))))
    (sThen (sSet 5 (m2 pAdd (m2 pMul (mGet 3) (m2 pIdx (mGet 0) (mC (.int 0)))) (mGet 6)))
    (sAug 4 pSub (mGet 7)))
    sNx)
theorem u_worn_beat_0 (ρ : Evn) : l_worn_beat_0 ρ = (sIf (mB (m2 pGt (mGet 4) (mC (.int 0))))
    (sThen (sSet 5 (m2 pAdd (m2 pMul (mGet 3) (m2 pIdx (mGet 0) (mC (.int 0)))) (mGet 6)))
    (sAug 4 pSub (mGet 7)))
    sNx) ρ := nr rfl
noncomputable def b_worn_beat : Evn → RS :=
  (sThen (sSet 3 (m2 pDiv (m2 pSub (mGet 2) (mC (.int 1))) (mSeq m_turn_wear (mCons (mGet 0) (mCons (mGet 1) mNil)))))
  (sThen (sSet 4 (m2 pSub (mGet 2) (m2 pMul (mGet 3) (mSeq m_turn_wear (mCons (mGet 0) (mCons (mGet 1) mNil))))))
  (sThen (sSet 5 (m2 pMul (mGet 3) (m2 pIdx (mGet 0) (mC (.int 0)))))
  (sThen (sFor (mItems (mSeq m_turn_bends (mCons (mGet 0) (mCons (mGet 1) mNil)))) (gT 2 (gC (gN 6) (gC (gN 7) gE))) l_worn_beat_0)
  (sRet (mGet 5))))))
noncomputable def m_worn_beat : List PyData → RE PyData := fnM 3 8 b_worn_beat
theorem ok_worn_beat {P : Program} {w : World} {K : PySem.W.Frag} {mg : Str → Option Value} {base : Heap} {f : Addr} {fd : FuncData} (F : FnP K "worn_beat" s_worn_beat f fd) (gl : mg "worn_beat" = some (.ref f)) (C_turn_wear : Cal P w K mg base 2 "turn_wear" ["loop", "piece"] m_turn_wear) (C_turn_bends : Cal P w K mg base 2 "turn_bends" ["loop", "piece"] m_turn_bends) : Cal P w K mg base 3 "worn_beat" ["loop", "piece", "most"] m_worn_beat :=
  Cal.of (k := 2) F gl sc_worn_beat (fun _ _ _ _ _ _ us hl => match us, hl with | [_, _, _], _ => rfl) fun cdv A outer s H E F0 hr => by
    have nd := sc_worn_beat.nd; have tk := takesD (P := P) (w := w) (K := K) (mg := mg) (base := base) (N := N_worn_beat) (qual := "worn_beat") (scope := defScope s_worn_beat) (f := f) (cdv := cdv) (A := A) (outer := outer) (s := s) (H := H) (E := E); have po := passes_of (X := cxOf (L2.CX P w) P w K mg base N_worn_beat "worn_beat" (defScope s_worn_beat) f cdv A outer s H E) rfl; exact
    (vs_cons (vs_set 3 nd (ve_op opv_div (ve_op opv_sub (ve_var 2) ve_int) (ve_cal C_turn_wear hr tk (va_cons (ve_var 0) (va_cons (ve_var 1) va_nil)))))
  (vs_cons (vs_set 4 nd (ve_op opv_sub (ve_var 2) (ve_op opv_mul (ve_var 3) (ve_cal C_turn_wear hr tk (va_cons (ve_var 0) (va_cons (ve_var 1) va_nil))))))
  (vs_cons (vs_set 5 nd (ve_op opv_mul (ve_var 3) (ve_ix (ve_var 0) ve_int)))
  (vs_cons (vs_for po rfl (vi_items (ve_cal C_turn_bends hr tk (va_cons (ve_var 0) (va_cons (ve_var 1) va_nil)))) (vg_tup rfl (vgs_cons (vg_name 6 nd) (vgs_cons (vg_name 7 nd) vgs_nil))) (vs_one (vs_if (vt_cmp opv_gt (ve_var 4) ve_int) (vs_cons (vs_set 5 nd (ve_op opv_add (ve_op opv_mul (ve_var 3) (ve_ix (ve_var 0) ve_int)) (ve_var 6)))
    (vs_one (vs_aug 4 opv_isub nd (ve_var 7)))) vs_nil)))
  (vs_one (vs_ret (ve_var 5)))))))
abbrev s_first_worn : Stmt := top 7
abbrev N_first_worn : List Str := ["loop", "most", "piece"]
theorem sc_first_worn : FnScope N_first_worn ["loop", "most"] (defScope s_first_worn) := ⟨rfl, rfl, rfl, by decide +kernel, rfl, by decide +kernel, by decide +kernel⟩
noncomputable def b_first_worn : Evn → RS :=
  (sRet (mCall bMinD (mCons (mL (mLc (mWk rng1 (mCons (m2 pIdx (mGet 0) (mC (.int 0))) mNil)) (gN 2) mYes (mSeq mTup (mCons (mSeq m_worn_beat (mCons (mGet 0) (mCons (mGet 2) (mCons (mGet 1) mNil)))) (mCons (mGet 2) mNil))) [2])) mNil)))
noncomputable def m_first_worn : List PyData → RE PyData := fnM 2 3 b_first_worn
theorem ok_first_worn {P : Program} {w : World} {K : PySem.W.Frag} {mg : Str → Option Value} {base : Heap} {f : Addr} {fd : FuncData} (F : FnP K "first_worn" s_first_worn f fd) (gl : mg "first_worn" = some (.ref f)) (bi : Bi mg) (C_worn_beat : Cal P w K mg base 3 "worn_beat" ["loop", "piece", "most"] m_worn_beat) : Cal P w K mg base 4 "first_worn" ["loop", "most"] m_first_worn :=
  Cal.of (k := 3) F gl sc_first_worn (fun _ _ _ _ _ _ us hl => match us, hl with | [_, _], _ => rfl) fun cdv A outer s H E F0 hr => by
    have nd := sc_first_worn.nd; have tk := takesD (P := P) (w := w) (K := K) (mg := mg) (base := base) (N := N_first_worn) (qual := "first_worn") (scope := defScope s_first_worn) (f := f) (cdv := cdv) (A := A) (outer := outer) (s := s) (H := H) (E := E); have po := passes_of (X := cxOf (L2.CX P w) P w K mg base N_first_worn "first_worn" (defScope s_first_worn) f cdv A outer s H E) rfl; exact
    (vs_one (vs_ret (ve_callB (cb_minD hr) (by rfl) bi.l_min (by rfl) (va_cons (VF.v (vf_lc rfl nd (vi_range1 rfl bi.l_range (va_cons (ve_ix (ve_var 0) ve_int) va_nil)) (blkOk_by (own := [("piece", 2)]) (N := N_first_worn) (sc := defScope s_first_worn) (by decide +kernel)) (fun _ _ _ _ _ => (vg_name 2 nd)) (fun _ _ _ _ _ => vts_nil) (fun _ _ _ _ _ => (ve_tup (va_cons (ve_cal C_worn_beat hr takesN (va_cons (ve_var 0) (va_cons (ve_var 2) (va_cons (ve_var 1) va_nil)))) (va_cons (ve_var 2) va_nil)))))) va_nil))))
abbrev s_law_like : Stmt := top 10
abbrev N_law_like : List Str := ["told", "due", "k"]
theorem sc_law_like : FnScope N_law_like ["told", "due"] (defScope s_law_like) := ⟨rfl, rfl, rfl, by decide +kernel, rfl, by decide +kernel, by decide +kernel⟩
noncomputable def l_law_like_0 (self : List PyData → RE PyData) : Evn → RS :=
  (sIf (mNotB (mT (mSeq self (mCons (m2 pIdx (mGet 0) (mGet 2)) (mCons (m2 pIdx (mGet 1) (mGet 2)) mNil)))))
    (sRet (mC (.bool false)))
    sNx)
theorem u_law_like_0 (self : List PyData → RE PyData) (ρ : Evn) : l_law_like_0 self ρ = (sIf (mNotB (mT (mSeq self (mCons (m2 pIdx (mGet 0) (mGet 2)) (mCons (m2 pIdx (mGet 1) (mGet 2)) mNil)))))
    (sRet (mC (.bool false)))
    sNx) ρ := nr rfl
noncomputable def b_law_like (self : List PyData → RE PyData) : Evn → RS :=
  (sThen (sIf (mT (mIs2 Ty.list Ty.tuple (mGet 1)))
    (sThen (sIf (mOrB (mB (m2 pNe (mIs Ty.list (mGet 0)) (mIs Ty.list (mGet 1)))) (mB (m2 pNe (mIs Ty.tuple (mGet 0)) (mIs Ty.tuple (mGet 1)))))
      (sRet (mC (.bool false)))
      sNx)
    (sThen (sIf (mB (m2 pNe (mCall bLen (mCons (mGet 0) mNil)) (mCall bLen (mCons (mGet 1) mNil))))
      (sRet (mC (.bool false)))
      sNx)
    (sThen (sFor (mWk rng1 (mCons (mCall bLen (mCons (mGet 1) mNil)) mNil)) (gN 2) (l_law_like_0 self))
    (sRet (mC (.bool true))))))
    sNx)
  (sThen (sIf (mB (m2 pIsN (mGet 1) (mC .none)))
    (sRet (m2 pIsN (mGet 0) (mC .none)))
    sNx)
  (sThen (sIf (mT (mIs Ty.bool (mGet 1)))
    (sRet (mAnd (mIs Ty.bool (mGet 0)) (m2 pEq (mGet 0) (mGet 1))))
    sNx)
  (sThen (sIf (mT (mIs Ty.int (mGet 1)))
    (sRet (mAnd (mIs Ty.int (mGet 0)) (mAnd (m1 pNot (mIs Ty.bool (mGet 0))) (m2 pEq (mGet 0) (mGet 1)))))
    sNx)
  (sRet (mAnd (mIs Ty.str (mGet 0)) (m2 pEq (mGet 0) (mGet 1))))))))
noncomputable def m_law_like : Nat → List PyData → RE PyData
  | 0 => fun _ => .bad
  | k + 1 => fnM 2 3 (b_law_like (m_law_like k))
theorem okr_law_like {P : Program} {w : World} {K : PySem.W.Frag} {mg : Str → Option Value} {base : Heap} {f : Addr} {fd : FuncData} (F : FnP K "_law_like" s_law_like f fd) (gl : mg "_law_like" = some (.ref f)) (bi : Bi mg) (j : Nat) (C_self : Cal P w K mg base (1 + j) "_law_like" ["told", "due"] (m_law_like j)) : Cal P w K mg base (1 + (j + 1)) "_law_like" ["told", "due"] (m_law_like (j + 1)) :=
  Cal.of (k := 1 + j) F gl sc_law_like (fun _ _ _ _ _ _ us hl => match us, hl with | [_, _], _ => rfl) fun cdv A outer s H E F0 hr => by
    have nd := sc_law_like.nd; have tk := takesD (P := P) (w := w) (K := K) (mg := mg) (base := base) (N := N_law_like) (qual := "_law_like") (scope := defScope s_law_like) (f := f) (cdv := cdv) (A := A) (outer := outer) (s := s) (H := H) (E := E); have po := passes_of (X := cxOf (L2.CX P w) P w K mg base N_law_like "_law_like" (defScope s_law_like) f cdv A outer s H E) rfl; exact
    (vs_cons (vs_if (vt_truth (ve_isi2 (T := Ty.list) (U := Ty.tuple) (by decide) (by decide) (ve_var 1) rfl bi.l_isinstance rfl bi.l_list rfl rfl bi.l_tuple rfl)) (vs_cons (vs_if (VW.t (vw_or (vt_cmp (opv_ne hr) (ve_isi (T := Ty.list) (by decide) (ve_var 0) rfl bi.l_isinstance rfl bi.l_list rfl) (ve_isi (T := Ty.list) (by decide) (ve_var 1) rfl bi.l_isinstance rfl bi.l_list rfl)) (vw_or1 (vt_cmp (opv_ne hr) (ve_isi (T := Ty.tuple) (by decide) (ve_var 0) rfl bi.l_isinstance rfl bi.l_tuple rfl) (ve_isi (T := Ty.tuple) (by decide) (ve_var 1) rfl bi.l_isinstance rfl bi.l_tuple rfl))))) (vs_one (vs_ret ve_bl)) vs_nil)
    (vs_cons (vs_if (vt_cmp (opv_ne hr) (ve_callB cb_len rfl bi.l_len rfl (va_cons (ve_var 0) va_nil)) (ve_callB cb_len rfl bi.l_len rfl (va_cons (ve_var 1) va_nil))) (vs_one (vs_ret ve_bl)) vs_nil)
    (vs_cons (vs_for po rfl (vi_range1 rfl bi.l_range (va_cons (ve_callB cb_len rfl bi.l_len rfl (va_cons (ve_var 1) va_nil)) va_nil)) (vg_name 2 nd) (vs_one (vs_if (vt_not (vt_truth (ve_cal C_self hr tk (va_cons (ve_ix (ve_var 0) (ve_var 2)) (va_cons (ve_ix (ve_var 1) (ve_var 2)) va_nil))))) (vs_one (vs_ret ve_bl)) vs_nil)))
    (vs_one (vs_ret ve_bl))))) vs_nil)
  (vs_cons (vs_if (vt_cmp opv_is (ve_var 1) ve_non) (vs_one (vs_ret (ve_cmp opv_is (ve_var 0) ve_non))) vs_nil)
  (vs_cons (vs_if (vt_truth (ve_isi (T := Ty.bool) (by decide) (ve_var 1) rfl bi.l_isinstance rfl bi.l_bool rfl)) (vs_one (vs_ret (ve_and (ve_isi (T := Ty.bool) (by decide) (ve_var 0) rfl bi.l_isinstance rfl bi.l_bool rfl) (ve_one (ve_cmp (opv_eq hr) (ve_var 0) (ve_var 1)))))) vs_nil)
  (vs_cons (vs_if (vt_truth (ve_isi (T := Ty.int) (by decide) (ve_var 1) rfl bi.l_isinstance rfl bi.l_int rfl)) (vs_one (vs_ret (ve_and (ve_isi (T := Ty.int) (by decide) (ve_var 0) rfl bi.l_isinstance rfl bi.l_int rfl) (ve_and (ve_not (ve_isi (T := Ty.bool) (by decide) (ve_var 0) rfl bi.l_isinstance rfl bi.l_bool rfl)) (ve_one (ve_cmp (opv_eq hr) (ve_var 0) (ve_var 1))))))) vs_nil)
  (vs_one (vs_ret (ve_and (ve_isi (T := Ty.str) (by decide) (ve_var 0) rfl bi.l_isinstance rfl bi.l_str rfl) (ve_one (ve_cmp (opv_eq hr) (ve_var 0) (ve_var 1))))))))))
theorem ok_law_like {P : Program} {w : World} {K : PySem.W.Frag} {mg : Str → Option Value} {base : Heap} {f : Addr} {fd : FuncData} (F : FnP K "_law_like" s_law_like f fd) (gl : mg "_law_like" = some (.ref f)) (bi : Bi mg) : ∀ j : Nat, Cal P w K mg base (1 + j) "_law_like" ["told", "due"] (m_law_like j)
  | 0 => Cal.none F gl (fun _ _ _ _ _ _ us hl => match us, hl with | [_, _], _ => rfl)
  | j + 1 => okr_law_like F gl bi j (ok_law_like F gl bi j)
abbrev s_law_wear : Stmt := top 11
abbrev N_law_wear : List Str := ["loop", "piece", "beats", "pieces", "wheels", "grips", "total", "place", "bend", "more", "first"]
theorem sc_law_wear : FnScope N_law_wear ["loop", "piece", "beats"] (defScope s_law_wear) := ⟨rfl, rfl, rfl, by decide +kernel, rfl, by decide +kernel, by decide +kernel⟩
noncomputable def l_law_wear_0 : Evn → RS :=
  (sThen (sSet 10 (m2 pAdd (m2 pMod (mCall bInt (mCons (m2 pSub (m2 pSub (mGet 7) (mGet 1)) (mC (.int 1))) mNil)) (mGet 3)) (mC (.int 1))))
  (sIf (mB (m2 pGe (mGet 2) (mGet 10)))
    (sSet 6 (m2 pAdd (mGet 6) (m2 pMul (m2 pAdd (m2 pDiv (m2 pSub (mGet 2) (mGet 10)) (mGet 3)) (mC (.int 1))) (m2 pAdd (mGet 8) (m2 pMul (mGet 9) (mCall bInt (mCons (m2 pIn (mGet 1) (mGet 5)) mNil)))))))
    sNx))
theorem u_law_wear_0 (ρ : Evn) : l_law_wear_0 ρ = (sThen (sSet 10 (m2 pAdd (m2 pMod (mCall bInt (mCons (m2 pSub (m2 pSub (mGet 7) (mGet 1)) (mC (.int 1))) mNil)) (mGet 3)) (mC (.int 1))))
  (sIf (mB (m2 pGe (mGet 2) (mGet 10)))
    (sSet 6 (m2 pAdd (mGet 6) (m2 pMul (m2 pAdd (m2 pDiv (m2 pSub (mGet 2) (mGet 10)) (mGet 3)) (mC (.int 1))) (m2 pAdd (mGet 8) (m2 pMul (mGet 9) (mCall bInt (mCons (m2 pIn (mGet 1) (mGet 5)) mNil)))))))
    sNx)) ρ := nr rfl
noncomputable def b_law_wear : Evn → RS :=
  (sThen (sAsg (mGet 0) (gT 3 (gC (gN 3) (gC (gN 4) (gC (gN 5) gE)))))
  (sThen (sSet 6 (mC (.int 0)))
  (sThen (sFor (mItems (mGet 4)) (gT 3 (gC (gN 7) (gC (gN 8) (gC (gN 9) gE)))) l_law_wear_0)
  (sRet (mGet 6)))))
noncomputable def m_law_wear : List PyData → RE PyData := fnM 3 11 b_law_wear
theorem ok_law_wear {P : Program} {w : World} {K : PySem.W.Frag} {mg : Str → Option Value} {base : Heap} {f : Addr} {fd : FuncData} (F : FnP K "_law_wear" s_law_wear f fd) (gl : mg "_law_wear" = some (.ref f)) (bi : Bi mg) : Cal P w K mg base 1 "_law_wear" ["loop", "piece", "beats"] m_law_wear :=
  Cal.of (k := 0) F gl sc_law_wear (fun _ _ _ _ _ _ us hl => match us, hl with | [_, _, _], _ => rfl) fun cdv A outer s H E F0 hr => by
    have nd := sc_law_wear.nd; have tk := takesD (P := P) (w := w) (K := K) (mg := mg) (base := base) (N := N_law_wear) (qual := "_law_wear") (scope := defScope s_law_wear) (f := f) (cdv := cdv) (A := A) (outer := outer) (s := s) (H := H) (E := E); have po := passes_of (X := cxOf (L2.CX P w) P w K mg base N_law_wear "_law_wear" (defScope s_law_wear) f cdv A outer s H E) rfl; exact
    (vs_cons (vs_asg (ve_var 0) (vg_tup rfl (vgs_cons (vg_name 3 nd) (vgs_cons (vg_name 4 nd) (vgs_cons (vg_name 5 nd) vgs_nil)))))
  (vs_cons (vs_set 6 nd ve_int)
  (vs_cons (vs_for po rfl (vi_items (ve_var 4)) (vg_tup rfl (vgs_cons (vg_name 7 nd) (vgs_cons (vg_name 8 nd) (vgs_cons (vg_name 9 nd) vgs_nil)))) (vs_cons (vs_set 10 nd (ve_op opv_add (ve_op opv_mod (ve_callTy cb_int rfl bi.l_int rfl (va_cons (ve_op opv_sub (ve_op opv_sub (ve_var 7) (ve_var 1)) ve_int) va_nil)) (ve_var 3)) ve_int))
  (vs_one (vs_if (vt_cmp opv_ge (ve_var 2) (ve_var 10)) (vs_one (vs_set 6 nd (ve_op opv_add (ve_var 6) (ve_op opv_mul (ve_op opv_add (ve_op opv_div (ve_op opv_sub (ve_var 2) (ve_var 10)) (ve_var 3)) ve_int) (ve_op opv_add (ve_var 8) (ve_op opv_mul (ve_var 9) (ve_callTy cb_int rfl bi.l_int rfl (va_cons (ve_cmp (opv_in hr) (ve_var 1) (ve_var 5)) va_nil)))))))) vs_nil))))
  (vs_one (vs_ret (ve_var 6))))))
abbrev s_comings : Stmt := top 1
abbrev N_comings : List Str := ["pieces", "piece", "place", "beats"]
theorem sc_comings : FnScope N_comings ["pieces", "piece", "place", "beats"] (defScope s_comings) := ⟨rfl, rfl, rfl, by decide +kernel, rfl, by decide +kernel, by decide +kernel⟩
noncomputable def b_comings : Evn → RS :=
  (sRet (m2 pSub (m2 pDiv (m2 pSub (m2 pAdd (mGet 1) (mGet 3)) (mGet 2)) (mGet 0)) (m2 pDiv (m2 pSub (mGet 1) (mGet 2)) (mGet 0))))
noncomputable def m_comings : List PyData → RE PyData := fnM 4 4 b_comings
theorem ok_comings {P : Program} {w : World} {K : PySem.W.Frag} {mg : Str → Option Value} {base : Heap} {f : Addr} {fd : FuncData} (F : FnP K "comings" s_comings f fd) (gl : mg "comings" = some (.ref f)) : Cal P w K mg base 1 "comings" ["pieces", "piece", "place", "beats"] m_comings :=
  Cal.of (k := 0) F gl sc_comings (fun _ _ _ _ _ _ us hl => match us, hl with | [_, _, _, _], _ => rfl) fun cdv A outer s H E F0 hr => by
    have nd := sc_comings.nd; have tk := takesD (P := P) (w := w) (K := K) (mg := mg) (base := base) (N := N_comings) (qual := "comings") (scope := defScope s_comings) (f := f) (cdv := cdv) (A := A) (outer := outer) (s := s) (H := H) (E := E); have po := passes_of (X := cxOf (L2.CX P w) P w K mg base N_comings "comings" (defScope s_comings) f cdv A outer s H E) rfl; exact
    (vs_one (vs_ret (ve_op opv_sub (ve_op opv_div (ve_op opv_sub (ve_op opv_add (ve_var 1) (ve_var 3)) (ve_var 2)) (ve_var 0)) (ve_op opv_div (ve_op opv_sub (ve_var 1) (ve_var 2)) (ve_var 0)))))
abbrev s_wear : Stmt := top 3
abbrev N_wear : List Str := ["loop", "piece", "beats", "pieces", "wheels", "_", "some", "wheel"]
theorem sc_wear : FnScope N_wear ["loop", "piece", "beats"] (defScope s_wear) := ⟨rfl, rfl, rfl, by decide +kernel, rfl, by decide +kernel, by decide +kernel⟩
noncomputable def b_wear : Evn → RS :=
  (sThen (sAsg (mGet 0) (gT 3 (gC (gN 3) (gC (gN 4) (gC (gN 5) gE)))))
  (sThen (sSetL 6 (mLc (mItems (mGet 4)) (gN 7) mYes (m2 pMul (mSeq m_bends_at (mCons (mGet 0) (mCons (mGet 7) (mCons (mGet 1) mNil)))) (mSeq m_comings (mCons (mGet 3) (mCons (mGet 1) (mCons (m2 pIdx (mGet 7) (mC (.int 0))) (mCons (mGet 2) mNil)))))) [7]))
  (sRet (mCall bSum (mCons (mGet 6) mNil)))))
noncomputable def m_wear : List PyData → RE PyData := fnM 3 8 b_wear
theorem ok_wear {P : Program} {w : World} {K : PySem.W.Frag} {mg : Str → Option Value} {base : Heap} {f : Addr} {fd : FuncData} (F : FnP K "wear" s_wear f fd) (gl : mg "wear" = some (.ref f)) (bi : Bi mg) (C_bends_at : Cal P w K mg base 1 "bends_at" ["loop", "wheel", "piece"] m_bends_at) (C_comings : Cal P w K mg base 1 "comings" ["pieces", "piece", "place", "beats"] m_comings) : Cal P w K mg base 2 "wear" ["loop", "piece", "beats"] m_wear :=
  Cal.of (k := 1) F gl sc_wear (fun _ _ _ _ _ _ us hl => match us, hl with | [_, _, _], _ => rfl) fun cdv A outer s H E F0 hr => by
    have nd := sc_wear.nd; have tk := takesD (P := P) (w := w) (K := K) (mg := mg) (base := base) (N := N_wear) (qual := "wear") (scope := defScope s_wear) (f := f) (cdv := cdv) (A := A) (outer := outer) (s := s) (H := H) (E := E); have po := passes_of (X := cxOf (L2.CX P w) P w K mg base N_wear "wear" (defScope s_wear) f cdv A outer s H E) rfl; exact
    (vs_cons (vs_asg (ve_var 0) (vg_tup rfl (vgs_cons (vg_name 3 nd) (vgs_cons (vg_name 4 nd) (vgs_cons (vg_name 5 nd) vgs_nil)))))
  (vs_cons (vs_lcL 6 rfl nd (vi_items (ve_var 4)) (blkOk_by (own := [("wheel", 7)]) (N := N_wear) (sc := defScope s_wear) (by decide +kernel)) (fun _ _ _ _ _ => (vg_name 7 nd)) (fun _ _ _ _ _ => vts_nil) (fun _ _ _ _ _ => (ve_op opv_mul (ve_cal C_bends_at hr takesN (va_cons (ve_var 0) (va_cons (ve_var 7) (va_cons (ve_var 1) va_nil)))) (ve_cal C_comings hr takesN (va_cons (ve_var 3) (va_cons (ve_var 1) (va_cons (ve_ix (ve_var 7) ve_int) (va_cons (ve_var 2) va_nil))))))))
  (vs_one (vs_ret (ve_callB (cb_sum rfl) rfl bi.l_sum rfl (va_cons (ve_var 6) va_nil))))))
abbrev s_law_right : Stmt := top 13
abbrev N_law_right : List Str := ["loop", "most", "told", "beat", "piece", "other"]
theorem sc_law_right : FnScope N_law_right ["loop", "most", "told"] (defScope s_law_right) := ⟨rfl, rfl, rfl, by decide +kernel, rfl, by decide +kernel, by decide +kernel⟩
noncomputable def l_law_right_0 : Evn → RS :=
  (sIf (mOrB (mB (m2 pGe (mSeq m_law_wear (mCons (mGet 0) (mCons (mGet 5) (mCons (m2 pSub (mGet 3) (mC (.int 1))) mNil)))) (mGet 1))) (mAndB (mB (m2 pLt (mGet 5) (mGet 4))) (mB (m2 pGe (mSeq m_law_wear (mCons (mGet 0) (mCons (mGet 5) (mCons (mGet 3) mNil)))) (mGet 1)))))
    (sRet (mC (.bool false)))
    sNx)
theorem u_law_right_0 (ρ : Evn) : l_law_right_0 ρ = (sIf (mOrB (mB (m2 pGe (mSeq m_law_wear (mCons (mGet 0) (mCons (mGet 5) (mCons (m2 pSub (mGet 3) (mC (.int 1))) mNil)))) (mGet 1))) (mAndB (mB (m2 pLt (mGet 5) (mGet 4))) (mB (m2 pGe (mSeq m_law_wear (mCons (mGet 0) (mCons (mGet 5) (mCons (mGet 3) mNil)))) (mGet 1)))))
    (sRet (mC (.bool false)))
    sNx) ρ := nr rfl
noncomputable def b_law_right : Evn → RS :=
  (sThen (sIf (mOrB (mNotB (mT (mIs Ty.tuple (mGet 2)))) (mB (m2 pNe (mCall bLen (mCons (mGet 2) mNil)) (mC (.int 2)))))
    (sRet (mC (.bool false)))
    sNx)
  (sThen (sAsg (mGet 2) (gT 2 (gC (gN 3) (gC (gN 4) gE))))
  (sThen (sIf (mOrB (mNotB (mT (mSeq (m_law_like 8) (mCons (mGet 2) (mCons (mSeq mTup (mCons (mGet 3) (mCons (mGet 4) mNil))) mNil))))) (mOrB (mNotB (mT (mIs Ty.int (mGet 3)))) (mOrB (mT (mIs Ty.bool (mGet 3))) (mNotB (mT (mIs Ty.int (mGet 4)))))))
    (sRet (mC (.bool false)))
    sNx)
  (sThen (sIf (mOrB (mB (m2 pLt (mGet 3) (mC (.int 1)))) (mOrB (mB (m2 pLt (mGet 4) (mC (.int 0)))) (mOrB (mB (m2 pGe (mGet 4) (m2 pIdx (mGet 0) (mC (.int 0))))) (mB (m2 pLt (mSeq m_law_wear (mCons (mGet 0) (mCons (mGet 4) (mCons (mGet 3) mNil)))) (mGet 1))))))
    (sRet (mC (.bool false)))
    sNx)
  (sThen (sFor (mWk rng1 (mCons (m2 pIdx (mGet 0) (mC (.int 0))) mNil)) (gN 5) l_law_right_0)
  (sRet (mAnd (m2 pGe (mSeq m_wear (mCons (mGet 0) (mCons (mGet 4) (mCons (mGet 3) mNil)))) (mGet 1)) (m2 pLt (mSeq m_wear (mCons (mGet 0) (mCons (mGet 4) (mCons (m2 pSub (mGet 3) (mC (.int 1))) mNil)))) (mGet 1)))))))))
noncomputable def m_law_right : List PyData → RE PyData := fnM 3 6 b_law_right
theorem ok_law_right {P : Program} {w : World} {K : PySem.W.Frag} {mg : Str → Option Value} {base : Heap} {f : Addr} {fd : FuncData} (F : FnP K "_law_right" s_law_right f fd) (gl : mg "_law_right" = some (.ref f)) (bi : Bi mg) (C_law_like : Cal P w K mg base 9 "_law_like" ["told", "due"] (m_law_like 8)) (C_law_wear : Cal P w K mg base 1 "_law_wear" ["loop", "piece", "beats"] m_law_wear) (C_wear : Cal P w K mg base 2 "wear" ["loop", "piece", "beats"] m_wear) : Cal P w K mg base 10 "_law_right" ["loop", "most", "told"] m_law_right :=
  Cal.of (k := 9) F gl sc_law_right (fun _ _ _ _ _ _ us hl => match us, hl with | [_, _, _], _ => rfl) fun cdv A outer s H E F0 hr => by
    have nd := sc_law_right.nd; have tk := takesD (P := P) (w := w) (K := K) (mg := mg) (base := base) (N := N_law_right) (qual := "_law_right") (scope := defScope s_law_right) (f := f) (cdv := cdv) (A := A) (outer := outer) (s := s) (H := H) (E := E); have po := passes_of (X := cxOf (L2.CX P w) P w K mg base N_law_right "_law_right" (defScope s_law_right) f cdv A outer s H E) rfl; exact
    (vs_cons (vs_if (VW.t (vw_or (vt_not (vt_truth (ve_isi (T := Ty.tuple) (by decide) (ve_var 2) rfl bi.l_isinstance rfl bi.l_tuple rfl))) (vw_or1 (vt_cmp (opv_ne hr) (ve_callB cb_len rfl bi.l_len rfl (va_cons (ve_var 2) va_nil)) ve_int)))) (vs_one (vs_ret ve_bl)) vs_nil)
  (vs_cons (vs_asg (ve_var 2) (vg_tup rfl (vgs_cons (vg_name 3 nd) (vgs_cons (vg_name 4 nd) vgs_nil))))
  (vs_cons (vs_if (VW.t (vw_or (vt_not (vt_truth (ve_cal C_law_like hr tk (va_cons (ve_var 2) (va_cons (ve_tup (va_cons (ve_var 3) (va_cons (ve_var 4) va_nil))) va_nil))))) (vw_or (vt_not (vt_truth (ve_isi (T := Ty.int) (by decide) (ve_var 3) rfl bi.l_isinstance rfl bi.l_int rfl))) (vw_or (vt_truth (ve_isi (T := Ty.bool) (by decide) (ve_var 3) rfl bi.l_isinstance rfl bi.l_bool rfl)) (vw_or1 (vt_not (vt_truth (ve_isi (T := Ty.int) (by decide) (ve_var 4) rfl bi.l_isinstance rfl bi.l_int rfl)))))))) (vs_one (vs_ret ve_bl)) vs_nil)
  (vs_cons (vs_if (VW.t (vw_or (vt_cmp opv_lt (ve_var 3) ve_int) (vw_or (vt_cmp opv_lt (ve_var 4) ve_int) (vw_or (vt_cmp opv_ge (ve_var 4) (ve_ix (ve_var 0) ve_int)) (vw_or1 (vt_cmp opv_lt (ve_cal C_law_wear hr tk (va_cons (ve_var 0) (va_cons (ve_var 4) (va_cons (ve_var 3) va_nil)))) (ve_var 1))))))) (vs_one (vs_ret ve_bl)) vs_nil)
  (vs_cons (vs_for po rfl (vi_range1 rfl bi.l_range (va_cons (ve_ix (ve_var 0) ve_int) va_nil)) (vg_name 5 nd) (vs_one (vs_if (VW.t (vw_or (vt_cmp opv_ge (ve_cal C_law_wear hr tk (va_cons (ve_var 0) (va_cons (ve_var 5) (va_cons (ve_op opv_sub (ve_var 3) ve_int) va_nil)))) (ve_var 1)) (vw_or1 (VW.t (vw_and (vt_cmp opv_lt (ve_var 5) (ve_var 4)) (vw_and1 (vt_cmp opv_ge (ve_cal C_law_wear hr tk (va_cons (ve_var 0) (va_cons (ve_var 5) (va_cons (ve_var 3) va_nil)))) (ve_var 1)))))))) (vs_one (vs_ret ve_bl)) vs_nil)))
  (vs_one (vs_ret (ve_and (ve_cmp opv_ge (ve_cal C_wear hr tk (va_cons (ve_var 0) (va_cons (ve_var 4) (va_cons (ve_var 3) va_nil)))) (ve_var 1)) (ve_one (ve_cmp opv_lt (ve_cal C_wear hr tk (va_cons (ve_var 0) (va_cons (ve_var 4) (va_cons (ve_op opv_sub (ve_var 3) ve_int) va_nil)))) (ve_var 1)))))))))))
abbrev s_law : Stmt := top 14
abbrev N_law : List Str := ["script", "picks", "loop", "pieces", "wheels", "grips", "most", "told", "later", "more", "piece", "place", "bend", "extra", "others", "where", "one", "two", "other", "early", "plain", "many", "once", "base"]
theorem sc_law : FnScope N_law ["script"] (defScope s_law) := ⟨rfl, rfl, rfl, by decide +kernel, rfl, by decide +kernel, by decide +kernel⟩
noncomputable def l_law_0 : Evn → RS :=
  (sThen (sSet 19 (mSeq m_first_worn (mCons (mGet 18) (mCons (mGet 6) mNil))))
  (sIf (mOrB (mNotB (mT (mSeq m_law_right (mCons (mGet 18) (mCons (mGet 6) (mCons (mGet 19) mNil)))))) (mB (m2 pGt (m2 pIdx (mGet 19) (mC (.int 0))) (m2 pIdx (mGet 7) (mC (.int 0))))))
    (sRet (mC (.bool false)))
    sNx))
theorem u_law_0 (ρ : Evn) : l_law_0 ρ = (sThen (sSet 19 (mSeq m_first_worn (mCons (mGet 18) (mCons (mGet 6) mNil))))
  (sIf (mOrB (mNotB (mT (mSeq m_law_right (mCons (mGet 18) (mCons (mGet 6) (mCons (mGet 19) mNil)))))) (mB (m2 pGt (m2 pIdx (mGet 19) (mC (.int 0))) (m2 pIdx (mGet 7) (mC (.int 0))))))
    (sRet (mC (.bool false)))
    sNx)) ρ := nr rfl
noncomputable def b_law : Evn → RS :=
  (sThen (sSet 1 (mSeq m_law_draws (mCons (mGet 0) (mCons (mC (.int 0)) (mCons (mC (.int 12)) mNil)))))
  (sThen (sSet 2 (mSeq m_law_loop (mCons (mGet 0) (mCons (mC (.int 1)) (mCons (m2 pIdx (mSeq mLst (mCons (mC (.int 12)) (mCons (mC (.int 40)) (mCons (mC (.int 24)) (mCons (mC (.int 500)) mNil))))) (m2 pMul (m2 pMod (m2 pIdx (mGet 1) (mC (.int 0))) (mC (.int 4))) (mCall bInt (mCons (m2 pEq (m2 pMod (m2 pIdx (mGet 1) (mC (.int 1))) (mC (.int 4))) (mC (.int 0))) mNil)))) mNil)))))
  (sThen (sAsg (mGet 2) (gT 3 (gC (gN 3) (gC (gN 4) (gC (gN 5) gE)))))
  (sThen (sSet 6 (m2 pAdd (mC (.int 1)) (m2 pIdx (mSeq mLst (mCons (m2 pMod (m2 pIdx (mGet 1) (mC (.int 2))) (mC (.int 9))) (mCons (m2 pIdx (mGet 1) (mC (.int 2))) (mCons (m2 pMul (m2 pIdx (mGet 1) (mC (.int 2))) (m2 pIdx (mGet 1) (mC (.int 3)))) (mCons (m2 pAdd (m2 pPow (mC (.int 10)) (mC (.int 30))) (m2 pIdx (mGet 1) (mC (.int 3)))) mNil))))) (m2 pMod (m2 pIdx (mGet 1) (mC (.int 4))) (mC (.int 4))))))
  (sThen (sSet 7 (mSeq m_first_worn (mCons (mGet 2) (mCons (mGet 6) mNil))))
  (sThen (sIf (mNotB (mT (mSeq m_law_right (mCons (mGet 2) (mCons (mGet 6) (mCons (mGet 7) mNil))))))
    (sRet (mC (.bool false)))
    sNx)
  (sThen (sSet 8 (mSeq m_first_worn (mCons (mGet 2) (mCons (m2 pAdd (mGet 6) (mC (.int 1))) mNil))))
  (sThen (sIf (mOrB (mNotB (mT (mSeq m_law_right (mCons (mGet 2) (mCons (m2 pAdd (mGet 6) (mC (.int 1))) (mCons (mGet 8) mNil)))))) (mB (m2 pLt (m2 pIdx (mGet 8) (mC (.int 0))) (m2 pIdx (mGet 7) (mC (.int 0))))))
    (sRet (mC (.bool false)))
    sNx)
  (sThen (sSet 9 (mCall bSorted (mCons (m2 pAdd (mGet 5) (mL (mLc (mItems (mSeq mLst (mCons (m2 pMod (m2 pIdx (mGet 1) (mC (.int 5))) (mGet 3)) mNil))) (gN 10) (mB (m2 pNotIn (mGet 10) (mGet 5))) (mGet 10) [10]))) mNil)))
  (sThen (sAsg (m2 pIdx (mGet 4) (m2 pMod (m2 pIdx (mGet 1) (mC (.int 6))) (mCall bLen (mCons (mGet 4) mNil)))) (gT 3 (gC (gN 11) (gC (gN 12) (gC (gN 13) gE)))))
  (sThen (sSetO 14 (mDsp (mCons (mSeq mTup (mCons (mGet 3) (mCons (mCall bList (mCons (mGet 4) mNil)) (mCons (mGet 9) mNil)))) mNil)))
  (sThen (sApp 14 (mSeq mTup (mCons (mGet 3) (mCons (mL (mLc (mItems (mGet 4)) (gT 3 (gC (gN 15) (gC (gN 16) (gC (gN 17) gE)))) mYes (mSeq mTup (mCons (mGet 15) (mCons (m2 pAdd (mGet 16) (mCall bInt (mCons (m2 pEq (mGet 15) (mGet 11)) mNil))) (mCons (mGet 17) mNil)))) [15, 16, 17])) (mCons (mCall bList (mCons (mGet 5) mNil)) mNil)))))
  (sThen (fun ρ => (sFor (mItems (mGet 14)) (gN 18) l_law_0) (freeze 14 ρ))
  (sThen (sSet 20 (mSeq mTup (mCons (mGet 3) (mCons (mCall bList (mCons (mGet 4) mNil)) (mCons (mSeq mLst mNil) mNil)))))
  (sThen (sSet 21 (m2 pIdx (mSeq mLst (mCons (mC (.int 0)) (mCons (mC (.int 1)) (mCons (m2 pIdx (mGet 1) (mC (.int 7))) (mCons (m2 pPow (mC (.int 10)) (mC (.int 20))) mNil))))) (m2 pMod (m2 pIdx (mGet 1) (mC (.int 8))) (mC (.int 4)))))
  (sThen (sSet 22 (mCall bSum (mCons (mL (mLc (mItems (mGet 4)) (gT 3 (gC (gN 15) (gC (gN 16) (gC (gN 17) gE)))) mYes (mGet 16) [15, 16, 17])) mNil)))
  (sThen (sIf (mNotB (mT (mSeq (m_law_like 8) (mCons (mSeq m_turn_wear (mCons (mGet 20) (mCons (m2 pIdx (mGet 7) (mC (.int 1))) mNil))) (mCons (mGet 22) mNil)))))
    (sRet (mC (.bool false)))
    sNx)
  (sThen (sSet 23 (mSeq m_first_worn (mCons (mGet 20) (mCons (mGet 6) mNil))))
  (sRet (mSeq (m_law_like 8) (mCons (mSeq m_first_worn (mCons (mGet 20) (mCons (m2 pAdd (mGet 6) (m2 pMul (mGet 21) (mGet 22))) mNil))) (mCons (mSeq mTup (mCons (m2 pAdd (m2 pIdx (mGet 23) (mC (.int 0))) (m2 pMul (mGet 21) (mGet 3))) (mCons (m2 pIdx (mGet 23) (mC (.int 1))) mNil))) mNil))))))))))))))))))))))
noncomputable def m_law : List PyData → RE PyData := fnM 1 24 b_law
theorem ok_law {P : Program} {w : World} {K : PySem.W.Frag} {mg : Str → Option Value} {base : Heap} {f : Addr} {fd : FuncData} (F : FnP K "law" s_law f fd) (bi : Bi mg) (C_law_draws : Cal P w K mg base 1 "_law_draws" ["script", "at", "count"] m_law_draws) (C_law_loop : Cal P w K mg base 2 "_law_loop" ["script", "at", "most"] m_law_loop) (C_first_worn : Cal P w K mg base 4 "first_worn" ["loop", "most"] m_first_worn) (C_law_right : Cal P w K mg base 10 "_law_right" ["loop", "most", "told"] m_law_right) (C_turn_wear : Cal P w K mg base 2 "turn_wear" ["loop", "piece"] m_turn_wear) (C_law_like : Cal P w K mg base 9 "_law_like" ["told", "due"] (m_law_like 8)) : FnV P w K mg base 11 f fd ["script"] m_law :=
  FnV.ofP (k := 10) F sc_law fun cdv A outer s H E F0 hr => by
    have nd := sc_law.nd; have tk := takesD (P := P) (w := w) (K := K) (mg := mg) (base := base) (N := N_law) (qual := "law") (scope := defScope s_law) (f := f) (cdv := cdv) (A := A) (outer := outer) (s := s) (H := H) (E := E); have po := passes_of (X := cxOf (L2.CX P w) P w K mg base N_law "law" (defScope s_law) f cdv A outer s H E) rfl; exact
    (vs_cons (vs_set 1 nd (ve_cal C_law_draws hr tk (va_cons (ve_var 0) (va_cons ve_int (va_cons ve_int va_nil)))))
  (vs_cons (vs_set 2 nd (ve_cal C_law_loop hr tk (va_cons (ve_var 0) (va_cons ve_int (va_cons (ve_ix (ve_lst (va_cons ve_int (va_cons ve_int (va_cons ve_int (va_cons ve_int va_nil))))) (ve_op opv_mul (ve_op opv_mod (ve_ix (ve_var 1) ve_int) ve_int) (ve_callTy cb_int rfl bi.l_int rfl (va_cons (ve_cmp (opv_eq hr) (ve_op opv_mod (ve_ix (ve_var 1) ve_int) ve_int) ve_int) va_nil)))) va_nil)))))
  (vs_cons (vs_asg (ve_var 2) (vg_tup rfl (vgs_cons (vg_name 3 nd) (vgs_cons (vg_name 4 nd) (vgs_cons (vg_name 5 nd) vgs_nil)))))
  (vs_cons (vs_set 6 nd (ve_op opv_add ve_int (ve_ix (ve_lst (va_cons (ve_op opv_mod (ve_ix (ve_var 1) ve_int) ve_int) (va_cons (ve_ix (ve_var 1) ve_int) (va_cons (ve_op opv_mul (ve_ix (ve_var 1) ve_int) (ve_ix (ve_var 1) ve_int)) (va_cons (ve_op opv_add (ve_op opv_pow ve_int ve_int) (ve_ix (ve_var 1) ve_int)) va_nil))))) (ve_op opv_mod (ve_ix (ve_var 1) ve_int) ve_int))))
  (vs_cons (vs_set 7 nd (ve_cal C_first_worn hr tk (va_cons (ve_var 2) (va_cons (ve_var 6) va_nil))))
  (vs_cons (vs_if (vt_not (vt_truth (ve_cal C_law_right hr tk (va_cons (ve_var 2) (va_cons (ve_var 6) (va_cons (ve_var 7) va_nil)))))) (vs_one (vs_ret ve_bl)) vs_nil)
  (vs_cons (vs_set 8 nd (ve_cal C_first_worn hr tk (va_cons (ve_var 2) (va_cons (ve_op opv_add (ve_var 6) ve_int) va_nil))))
  (vs_cons (vs_if (VW.t (vw_or (vt_not (vt_truth (ve_cal C_law_right hr tk (va_cons (ve_var 2) (va_cons (ve_op opv_add (ve_var 6) ve_int) (va_cons (ve_var 8) va_nil)))))) (vw_or1 (vt_cmp opv_lt (ve_ix (ve_var 8) ve_int) (ve_ix (ve_var 7) ve_int))))) (vs_one (vs_ret ve_bl)) vs_nil)
  (vs_cons (vs_set 9 nd (ve_callB (cb_sorted hr) (by rfl) bi.l_sorted (by rfl) (va_cons (ve_op opv_add (ve_var 5) (VF.v (vf_lc rfl nd (vi_items (ve_lst (va_cons (ve_op opv_mod (ve_ix (ve_var 1) ve_int) (ve_var 3)) va_nil))) (blkOk_by (own := [("piece", 10)]) (N := N_law) (sc := defScope s_law) (by decide +kernel)) (fun _ _ _ _ _ => (vg_name 10 nd)) (fun _ _ _ _ _ => (vts_one (vt_cmp (opv_notin hr) (ve_var 10) (ve_var 5)))) (fun _ _ _ _ _ => (ve_var 10))))) va_nil)))
  (vs_cons (vs_asg (ve_ix (ve_var 4) (ve_op opv_mod (ve_ix (ve_var 1) ve_int) (ve_callB cb_len rfl bi.l_len rfl (va_cons (ve_var 4) va_nil)))) (vg_tup rfl (vgs_cons (vg_name 11 nd) (vgs_cons (vg_name 12 nd) (vgs_cons (vg_name 13 nd) vgs_nil)))))
  (vs_cons (vs_setO 14 nd (vf_lst (va_cons (ve_tup (va_cons (ve_var 3) (va_cons (ve_callTy cb_list rfl bi.l_list rfl (va_cons (ve_var 4) va_nil)) (va_cons (ve_var 9) va_nil)))) va_nil)))
  (vs_cons (vs_append 14 (ve_tup (va_cons (ve_var 3) (va_cons (VF.v (vf_lc rfl nd (vi_items (ve_var 4)) (blkOk_by (own := [("where", 15), ("one", 16), ("two", 17)]) (N := N_law) (sc := defScope s_law) (by decide +kernel)) (fun _ _ _ _ _ => (vg_tup rfl (vgs_cons (vg_name 15 nd) (vgs_cons (vg_name 16 nd) (vgs_cons (vg_name 17 nd) vgs_nil))))) (fun _ _ _ _ _ => vts_nil) (fun _ _ _ _ _ => (ve_tup (va_cons (ve_var 15) (va_cons (ve_op opv_add (ve_var 16) (ve_callTy cb_int rfl bi.l_int rfl (va_cons (ve_cmp (opv_eq hr) (ve_var 15) (ve_var 11)) va_nil))) (va_cons (ve_var 17) va_nil))))))) (va_cons (ve_callTy cb_list rfl bi.l_list rfl (va_cons (ve_var 5) va_nil)) va_nil)))))
  (vs_cons (vs_freeze 14 (vs_for po rfl (vi_items (ve_var 14)) (vg_name 18 nd) (vs_cons (vs_set 19 nd (ve_cal C_first_worn hr tk (va_cons (ve_var 18) (va_cons (ve_var 6) va_nil))))
  (vs_one (vs_if (VW.t (vw_or (vt_not (vt_truth (ve_cal C_law_right hr tk (va_cons (ve_var 18) (va_cons (ve_var 6) (va_cons (ve_var 19) va_nil)))))) (vw_or1 (vt_cmp opv_gt (ve_ix (ve_var 19) ve_int) (ve_ix (ve_var 7) ve_int))))) (vs_one (vs_ret ve_bl)) vs_nil)))))
  (vs_cons (vs_set 20 nd (ve_tup (va_cons (ve_var 3) (va_cons (ve_callTy cb_list rfl bi.l_list rfl (va_cons (ve_var 4) va_nil)) (va_cons (ve_lst va_nil) va_nil)))))
  (vs_cons (vs_set 21 nd (ve_ix (ve_lst (va_cons ve_int (va_cons ve_int (va_cons (ve_ix (ve_var 1) ve_int) (va_cons (ve_op opv_pow ve_int ve_int) va_nil))))) (ve_op opv_mod (ve_ix (ve_var 1) ve_int) ve_int)))
  (vs_cons (vs_set 22 nd (ve_callB (cb_sum rfl) rfl bi.l_sum rfl (va_cons (VF.v (vf_lc rfl nd (vi_items (ve_var 4)) (blkOk_by (own := [("where", 15), ("one", 16), ("two", 17)]) (N := N_law) (sc := defScope s_law) (by decide +kernel)) (fun _ _ _ _ _ => (vg_tup rfl (vgs_cons (vg_name 15 nd) (vgs_cons (vg_name 16 nd) (vgs_cons (vg_name 17 nd) vgs_nil))))) (fun _ _ _ _ _ => vts_nil) (fun _ _ _ _ _ => (ve_var 16)))) va_nil)))
  (vs_cons (vs_if (vt_not (vt_truth (ve_cal C_law_like hr tk (va_cons (ve_cal C_turn_wear hr tk (va_cons (ve_var 20) (va_cons (ve_ix (ve_var 7) ve_int) va_nil))) (va_cons (ve_var 22) va_nil))))) (vs_one (vs_ret ve_bl)) vs_nil)
  (vs_cons (vs_set 23 nd (ve_cal C_first_worn hr tk (va_cons (ve_var 20) (va_cons (ve_var 6) va_nil))))
  (vs_one (vs_ret (ve_cal C_law_like hr tk (va_cons (ve_cal C_first_worn hr tk (va_cons (ve_var 20) (va_cons (ve_op opv_add (ve_var 6) (ve_op opv_mul (ve_var 21) (ve_var 22))) va_nil))) (va_cons (ve_tup (va_cons (ve_op opv_add (ve_ix (ve_var 23) ve_int) (ve_op opv_mul (ve_var 21) (ve_var 3))) (va_cons (ve_ix (ve_var 23) ve_int) va_nil))) va_nil)))))))))))))))))))))))
/-! ### the head -/
def d_law_draws : He.DefD := ⟨("_law_draws", none), "_law_draws", "_law_draws", defArgs s_law_draws, defBody s_law_draws, defScope s_law_draws, [], []⟩
def d_law_loop : He.DefD := ⟨("_law_loop", none), "_law_loop", "_law_loop", defArgs s_law_loop, defBody s_law_loop, defScope s_law_loop, [], []⟩
def d_bends_at : He.DefD := ⟨("bends_at", none), "bends_at", "bends_at", defArgs s_bends_at, defBody s_bends_at, defScope s_bends_at, [], []⟩
def d_turn_bends : He.DefD := ⟨("turn_bends", none), "turn_bends", "turn_bends", defArgs s_turn_bends, defBody s_turn_bends, defScope s_turn_bends, [], []⟩
def d_turn_wear : He.DefD := ⟨("turn_wear", none), "turn_wear", "turn_wear", defArgs s_turn_wear, defBody s_turn_wear, defScope s_turn_wear, [], []⟩
def d_worn_beat : He.DefD := ⟨("worn_beat", none), "worn_beat", "worn_beat", defArgs s_worn_beat, defBody s_worn_beat, defScope s_worn_beat, [], []⟩
def d_first_worn : He.DefD := ⟨("first_worn", none), "first_worn", "first_worn", defArgs s_first_worn, defBody s_first_worn, defScope s_first_worn, [], []⟩
def d_law_like : He.DefD := ⟨("_law_like", none), "_law_like", "_law_like", defArgs s_law_like, defBody s_law_like, defScope s_law_like, [], []⟩
def d_law_wear : He.DefD := ⟨("_law_wear", none), "_law_wear", "_law_wear", defArgs s_law_wear, defBody s_law_wear, defScope s_law_wear, [], []⟩
def d_comings : He.DefD := ⟨("comings", none), "comings", "comings", defArgs s_comings, defBody s_comings, defScope s_comings, [], []⟩
def d_wear : He.DefD := ⟨("wear", none), "wear", "wear", defArgs s_wear, defBody s_wear, defScope s_wear, [], []⟩
def d_law_right : He.DefD := ⟨("_law_right", none), "_law_right", "_law_right", defArgs s_law_right, defBody s_law_right, defScope s_law_right, [], []⟩
def d_law : He.DefD := ⟨("law", none), "law", "law", defArgs s_law, defBody s_law, defScope s_law, [], []⟩
def fn : List He.DefD := [d_law_draws, d_law_loop, d_bends_at, d_turn_bends, d_turn_wear, d_worn_beat, d_first_worn, d_law_like, d_law_wear, d_comings, d_wear, d_law_right, d_law]
def fa : List He.Fa := [.glo "_law_draws", .glo "_law_loop", .glo "bends_at", .glo "turn_bends", .glo "turn_wear", .glo "worn_beat", .glo "first_worn", .glo "_law_like", .glo "_law_wear", .glo "comings", .glo "wear", .glo "_law_right", .glo "law", .free "bool", .free "int", .free "isinstance", .free "len", .free "list", .free "max", .free "min", .free "range", .free "sorted", .free "str", .free "sum", .free "tuple"]
abbrev Rw : PySem.W.OpenRow := PySem.W.OpenLaw.row PySem.Challenge.rw_ropesbear_k65_whole_first_worn_pieces
def exb (K : PySem.W.Frag) : Bool := true
abbrev hk : PySem.W.Hook := He.hookX 4 fa fn [] [] exb
def ob (s : PySem.W.SharedT) : He.AlX := He.obsX 4 fa fn [] [] exb (HandSHeadRun.getT s)
theorem ob_eq (s : PySem.W.SharedT) : ob s = hk.obs s.abs := He.obsX_eq (HandSHeadRun.getT_eq s)
def loose : List Str := [("comings" : Str), ("bends_at" : Str), ("wear" : Str), ("turn_wear" : Str), ("turn_bends" : Str), ("worn_beat" : Str), ("first_worn" : Str), ("_law_draws" : Str), ("_law_like" : Str), ("_law_wear" : Str), ("_law_loop" : Str), ("_law_right" : Str)]
theorem run (w : World) : HandSHeadRun.RunEq Rw (PySem.W.view Rw.prog [14]) hk ob 1300 loose w := by
  intro os
  kernel_rfl
theorem facts {P : Program} {w : World} {K : PySem.W.Frag} {h : Heap} {mg : Str → Option Value} {f : Addr} (X : K.In h) (G : h.Ns mainGlobals mg) (hfa : mg ("law" : Str) = some (.ref f)) (c : He.SaysX fa fn [] [] exb w h K) :
    ∃ fd : FuncData, (∀ (s : Shared) (v : Value), BindsTo s fd ⟨[v], []⟩ [("script", v)]) ∧ ∀ base : Heap, K.In base → base.Ns mainGlobals mg → FnOk P w K mg base (L2.CX P w) 11 f fd ["script"] (SpV K mg 1 m_law) := by
  have cd := c.t.d
  obtain ⟨fd_law_draws, F_law_draws⟩ := cd.def_ 0 (d := d_law_draws) rfl
  have gl_law_draws := He.glo_ok X G (cd.fact 0 (f := .glo "_law_draws") rfl)
  obtain ⟨fd_law_loop, F_law_loop⟩ := cd.def_ 1 (d := d_law_loop) rfl
  have gl_law_loop := He.glo_ok X G (cd.fact 1 (f := .glo "_law_loop") rfl)
  obtain ⟨fd_bends_at, F_bends_at⟩ := cd.def_ 2 (d := d_bends_at) rfl
  have gl_bends_at := He.glo_ok X G (cd.fact 2 (f := .glo "bends_at") rfl)
  obtain ⟨fd_turn_bends, F_turn_bends⟩ := cd.def_ 3 (d := d_turn_bends) rfl
  have gl_turn_bends := He.glo_ok X G (cd.fact 3 (f := .glo "turn_bends") rfl)
  obtain ⟨fd_turn_wear, F_turn_wear⟩ := cd.def_ 4 (d := d_turn_wear) rfl
  have gl_turn_wear := He.glo_ok X G (cd.fact 4 (f := .glo "turn_wear") rfl)
  obtain ⟨fd_worn_beat, F_worn_beat⟩ := cd.def_ 5 (d := d_worn_beat) rfl
  have gl_worn_beat := He.glo_ok X G (cd.fact 5 (f := .glo "worn_beat") rfl)
  obtain ⟨fd_first_worn, F_first_worn⟩ := cd.def_ 6 (d := d_first_worn) rfl
  have gl_first_worn := He.glo_ok X G (cd.fact 6 (f := .glo "first_worn") rfl)
  obtain ⟨fd_law_like, F_law_like⟩ := cd.def_ 7 (d := d_law_like) rfl
  have gl_law_like := He.glo_ok X G (cd.fact 7 (f := .glo "_law_like") rfl)
  obtain ⟨fd_law_wear, F_law_wear⟩ := cd.def_ 8 (d := d_law_wear) rfl
  have gl_law_wear := He.glo_ok X G (cd.fact 8 (f := .glo "_law_wear") rfl)
  obtain ⟨fd_comings, F_comings⟩ := cd.def_ 9 (d := d_comings) rfl
  have gl_comings := He.glo_ok X G (cd.fact 9 (f := .glo "comings") rfl)
  obtain ⟨fd_wear, F_wear⟩ := cd.def_ 10 (d := d_wear) rfl
  have gl_wear := He.glo_ok X G (cd.fact 10 (f := .glo "wear") rfl)
  obtain ⟨fd_law_right, F_law_right⟩ := cd.def_ 11 (d := d_law_right) rfl
  have gl_law_right := He.glo_ok X G (cd.fact 11 (f := .glo "_law_right") rfl)
  obtain ⟨fd_law, F_law⟩ := cd.def_ 12 (d := d_law) rfl
  have gl_law := He.glo_ok X G (cd.fact 12 (f := .glo "law") rfl)
  have bi : Bi mg := ⟨He.free_ok X G (cd.fact 13 (f := .free "bool") rfl), He.free_ok X G (cd.fact 14 (f := .free "int") rfl), He.free_ok X G (cd.fact 15 (f := .free "isinstance") rfl), He.free_ok X G (cd.fact 16 (f := .free "len") rfl), He.free_ok X G (cd.fact 17 (f := .free "list") rfl), He.free_ok X G (cd.fact 18 (f := .free "max") rfl), He.free_ok X G (cd.fact 19 (f := .free "min") rfl), He.free_ok X G (cd.fact 20 (f := .free "range") rfl), He.free_ok X G (cd.fact 21 (f := .free "sorted") rfl), He.free_ok X G (cd.fact 22 (f := .free "str") rfl), He.free_ok X G (cd.fact 23 (f := .free "sum") rfl), He.free_ok X G (cd.fact 24 (f := .free "tuple") rfl)⟩
  have hex : exb K = true := c.more
  simp only [exb, Bool.and_eq_true] at hex
  have e := hfa.symm.trans gl_law
  cases e
  have b := FunD.bindsA (ps := ["script"]) F_law fun _ _ _ _ _ _ us hl => match us, hl with | [_], _ => rfl
  refine ⟨fd_law, fun s v => b s [v] rfl, fun base _ _ => ?_⟩
  have C_law_draws := ok_law_draws (P := P) (w := w) (base := base) F_law_draws gl_law_draws bi
  have C_law_loop := ok_law_loop (P := P) (w := w) (base := base) F_law_loop gl_law_loop bi C_law_draws
  have C_bends_at := ok_bends_at (P := P) (w := w) (base := base) F_bends_at gl_bends_at
  have C_turn_bends := ok_turn_bends (P := P) (w := w) (base := base) F_turn_bends gl_turn_bends bi C_bends_at
  have C_turn_wear := ok_turn_wear (P := P) (w := w) (base := base) F_turn_wear gl_turn_wear bi C_bends_at
  have C_worn_beat := ok_worn_beat (P := P) (w := w) (base := base) F_worn_beat gl_worn_beat C_turn_wear C_turn_bends
  have C_first_worn := ok_first_worn (P := P) (w := w) (base := base) F_first_worn gl_first_worn bi C_worn_beat
  have C_law_like := ok_law_like (P := P) (w := w) (base := base) F_law_like gl_law_like bi 8
  have C_law_wear := ok_law_wear (P := P) (w := w) (base := base) F_law_wear gl_law_wear bi
  have C_comings := ok_comings (P := P) (w := w) (base := base) F_comings gl_comings
  have C_wear := ok_wear (P := P) (w := w) (base := base) F_wear gl_wear bi C_bends_at C_comings
  have C_law_right := ok_law_right (P := P) (w := w) (base := base) F_law_right gl_law_right bi C_law_like C_law_wear C_wear
  exact (ok_law (P := P) (w := w) (base := base) F_law bi C_law_draws C_law_loop C_first_worn C_law_right C_turn_wear C_law_like).ok
end Law
end
section
set_option Elab.async false
set_option linter.all false
set_option maxRecDepth 100000
set_option maxHeartbeats 4000000
open PySem PV
namespace Law
/-- what is drawn: small whole numbers -/
theorem draws_ok (ns : List Int) (a0 count : Nat) (h1 : a0 < 2 ^ 30) (h2 : count < 2 ^ 20) : ∃ ds : List Int, m_law_draws [li ns, .int a0, .int count] = .ok (li ds) ∧ ds.length = count ∧ ∀ x ∈ ds, 0 ≤ x ∧ x < 5040 := by
  have hc : ∃ c : Int, ∀ g : Evn → RS, sThen (sIf (mB (m2 pLt (mGet 1) (mCall bLen (mCons (mGet 0) mNil)))) (sSet 3 (mCall bInt (mCons (m2 pIdx (mGet 0) (mGet 1)) mNil))) sNx) g [some (.val (li ns)), some (.val (.int a0)), some (.val (.int count)), some (.val (.int 0)), none, none, none, none] = g [some (.val (li ns)), some (.val (.int a0)), some (.val (.int count)), some (.val (.int c)), none, none, none, none] := by
    by_cases h : (a0 : Int) < ns.length
    · refine ⟨ns.getD a0 0, fun g => ?_⟩
      simp (disch := omega) only [h, atI_li, List.length_map, decide_true, Int.toNat_natCast, bind_ok, bind_bad, bind_exc, at_ok, at_exc, ofO_some, oS_some, nox_okk, g_v, g_s, go_v, go_s, ga_v, ga_o, ga_s, s_z, s_s, fz_o, fz_v, fz_s, e_mGet, e_mC, e_m2, e_m1, e_mT, e_mB, e_mAndB, e_mOrB, e_mNotB, e_mAnd, e_mOr, e_mIf, e_mChain, e_mNil, e_mCons, e_mSeq, e_mCall, e_mNo, e_mPart, e_mCut, e_mIs, e_mIs2, e_mL, e_mDsp, e_mRep, e_mBind, e_mIxO, e_mBor, e_mBorB, e_mItems, e_mWk, e_mRev, e_mYes, e_mLc, e_gN, e_gE, e_gC, e_gTt, e_gTl, e_sNx, e_sThen, e_sDrop, e_sRet, e_sSet, e_sIf, e_sFor, e_sAsg, e_sPar, e_sSetO, e_sSetL, e_ownAt, e_freeze, e_sApp, e_sSetIx, e_sAugIx, e_sAug, e_sPop, e_sPopTo, e_fnM, e_bo_rt, e_bo_nx, e_bo_exc, e_startE, e_wipe0, e_wipe1, d_add, d_addib, d_addl, d_addt, d_sub, d_mul, d_div, d_mod, d_pow, d_cmp, d_neg, d_not, d_iadd, d_iop, d_toB, d_toI, d_trB, d_trI, d_trN, d_trL, d_trT, d_lenL, d_lenT, d_intI, d_intB, d_abs, d_gcd, d_max2, d_min2, d_sumI, d_anyB, d_allB, d_maxL, d_minL, d_listL, d_listT, d_tupL, d_tupT, d_idxL, d_idxT, d_lstL, d_lstT, d_revL, d_itL, d_itT, d_rng1, d_rng2, d_enum1, d_zip2, d_rev1L, d_rev1T, d_cutL, d_cutT, d_rep, d_mTup, d_mLst, d_setD, d_scN, d_scB, d_scI, d_scS, d_isN, d_isNN, d_nN, d_nB, d_nI, d_nS, d_nL, d_nT, if_true, if_false, ite_true, ite_false, reduceIte, List.length_cons, List.length_nil, Nat.zero_add, Nat.reduceAdd, Nat.reduceSub, Nat.reduceEqDiff, List.map_cons, List.map_nil, List.cons_append, List.nil_append, List.replicate, Option.map_some, Option.bind_some, Option.some.injEq, Bool.not_true, Bool.not_false, ne_eq, Bool.false_eq_true, Int.reduceEq, Int.reduceLT, Int.reduceLE, Int.reduceNeg, Int.reduceAdd, Int.reduceSub, Int.reduceMul, Int.reduceToNat, Int.toNat_natCast, Nat.reduceLT, Nat.reduceLeDiff, not_false_eq_true, not_true_eq_false, decide_true, decide_false, List.length_map, List.map_append, fmod_pos, fdiv_pos, and_true, true_and, and_self, Bool.and_true, Bool.or_false, Bool.and_false, Bool.or_true, Bool.true_and, Bool.false_and, ty_li_none, ty_li_bool, ty_li_int, ty_li_str, ty_li_list, ty_li_tuple, ty_tu_none, ty_tu_bool, ty_tu_int, ty_tu_str, ty_tu_list, ty_tu_tuple, ty_bo_none, ty_bo_bool, ty_bo_int, ty_bo_str, ty_bo_list, ty_bo_tuple, ty_in_none, ty_in_bool, ty_in_int, ty_in_str, ty_in_list, ty_in_tuple, ty_st_none, ty_st_bool, ty_st_int, ty_st_str, ty_st_list, ty_st_tuple, eq_int, ne_int, eq_bl, ne_bl, eq_st, ne_st, eq_li, ne_li, at_0, at_1, at_2, at_3, at_4, at_5, in_li, notin_li, c_z, c_s, gx_v, gx_s, e_mIsX, e_sTry, tc_ok, tc_exc, cm_nil, cm_cons, ex_ok, dx_nil, dx_v, dx_o, dx_x, dx_n, at_exx, Int.cast_ofNat_Int, e_mLrg1, e_mLrg2, d_lrg]
    · refine ⟨0, fun g => ?_⟩
      simp (disch := omega) only [h, List.length_map, decide_false, bind_ok, bind_bad, bind_exc, at_ok, at_exc, ofO_some, oS_some, nox_okk, g_v, g_s, go_v, go_s, ga_v, ga_o, ga_s, s_z, s_s, fz_o, fz_v, fz_s, e_mGet, e_mC, e_m2, e_m1, e_mT, e_mB, e_mAndB, e_mOrB, e_mNotB, e_mAnd, e_mOr, e_mIf, e_mChain, e_mNil, e_mCons, e_mSeq, e_mCall, e_mNo, e_mPart, e_mCut, e_mIs, e_mIs2, e_mL, e_mDsp, e_mRep, e_mBind, e_mIxO, e_mBor, e_mBorB, e_mItems, e_mWk, e_mRev, e_mYes, e_mLc, e_gN, e_gE, e_gC, e_gTt, e_gTl, e_sNx, e_sThen, e_sDrop, e_sRet, e_sSet, e_sIf, e_sFor, e_sAsg, e_sPar, e_sSetO, e_sSetL, e_ownAt, e_freeze, e_sApp, e_sSetIx, e_sAugIx, e_sAug, e_sPop, e_sPopTo, e_fnM, e_bo_rt, e_bo_nx, e_bo_exc, e_startE, e_wipe0, e_wipe1, d_add, d_addib, d_addl, d_addt, d_sub, d_mul, d_div, d_mod, d_pow, d_cmp, d_neg, d_not, d_iadd, d_iop, d_toB, d_toI, d_trB, d_trI, d_trN, d_trL, d_trT, d_lenL, d_lenT, d_intI, d_intB, d_abs, d_gcd, d_max2, d_min2, d_sumI, d_anyB, d_allB, d_maxL, d_minL, d_listL, d_listT, d_tupL, d_tupT, d_idxL, d_idxT, d_lstL, d_lstT, d_revL, d_itL, d_itT, d_rng1, d_rng2, d_enum1, d_zip2, d_rev1L, d_rev1T, d_cutL, d_cutT, d_rep, d_mTup, d_mLst, d_setD, d_scN, d_scB, d_scI, d_scS, d_isN, d_isNN, d_nN, d_nB, d_nI, d_nS, d_nL, d_nT, if_true, if_false, ite_true, ite_false, reduceIte, List.length_cons, List.length_nil, Nat.zero_add, Nat.reduceAdd, Nat.reduceSub, Nat.reduceEqDiff, List.map_cons, List.map_nil, List.cons_append, List.nil_append, List.replicate, Option.map_some, Option.bind_some, Option.some.injEq, Bool.not_true, Bool.not_false, ne_eq, Bool.false_eq_true, Int.reduceEq, Int.reduceLT, Int.reduceLE, Int.reduceNeg, Int.reduceAdd, Int.reduceSub, Int.reduceMul, Int.reduceToNat, Int.toNat_natCast, Nat.reduceLT, Nat.reduceLeDiff, not_false_eq_true, not_true_eq_false, decide_true, decide_false, List.length_map, List.map_append, fmod_pos, fdiv_pos, and_true, true_and, and_self, Bool.and_true, Bool.or_false, Bool.and_false, Bool.or_true, Bool.true_and, Bool.false_and, ty_li_none, ty_li_bool, ty_li_int, ty_li_str, ty_li_list, ty_li_tuple, ty_tu_none, ty_tu_bool, ty_tu_int, ty_tu_str, ty_tu_list, ty_tu_tuple, ty_bo_none, ty_bo_bool, ty_bo_int, ty_bo_str, ty_bo_list, ty_bo_tuple, ty_in_none, ty_in_bool, ty_in_int, ty_in_str, ty_in_list, ty_in_tuple, ty_st_none, ty_st_bool, ty_st_int, ty_st_str, ty_st_list, ty_st_tuple, eq_int, ne_int, eq_bl, ne_bl, eq_st, ne_st, eq_li, ne_li, at_0, at_1, at_2, at_3, at_4, at_5, in_li, notin_li, c_z, c_s, gx_v, gx_s, e_mIsX, e_sTry, tc_ok, tc_exc, cm_nil, cm_cons, ex_ok, dx_nil, dx_v, dx_o, dx_x, dx_n, at_exx, Int.cast_ofNat_Int, e_mLrg1, e_mLrg2, d_lrg]
  obtain ⟨c, hc⟩ := hc
  have hp : powOk 10 18 := by decide
  have hr : r62 (count : Int) := r62_s (by omega) (by omega)
  have h0 : (0 : Nat) ≤ sizeLine := Nat.zero_le _
  have hl := forM_rng (lo := 0) (n := count) (m := gN 6) (body := l_law_draws_0)
    (fun i ρ => ∃ (c : Int) (b : Bool) (ds : List Int) (x y : Option Cel), ρ = [some (.val (li ns)), some (.val (.int a0)), some (.val (.int count)), some (.val (.int c)), some (.val (.bool b)), some (.own (ds.map .int)), x, y] ∧ ds.length = i ∧ ∀ x ∈ ds, 0 ≤ x ∧ x < 5040)
    (ρ := [some (.val (li ns)), some (.val (.int a0)), some (.val (.int count)), some (.val (.int c)), some (.val (.bool (decide (10 ^ 18 ≤ c)))), some (.own []), none, none])
    ⟨c, _, [], none, none, rfl, rfl, fun x hx => nomatch hx⟩ (by
    rintro i ρ hi ⟨c, b, ds, x, y, hρ, hlen, hb⟩
    subst hρ
    have hlt : ds.length < sizeLine := by rw [line_eq]; omega
    cases b with
    | true =>
      have hd : divOk 5040 := divOk_s (by decide) (by decide)
      refine ⟨_, [some (.val (li ns)), some (.val (.int a0)), some (.val (.int count)), some (.val (.int (c / 5040))), some (.val (.bool true)), some (.own ((ds ++ [c % 5040]).map .int)), some (.val (.int (0 + i))), y], rfl, .inl ?_, _, true, ds ++ [c % 5040], _, _, rfl, ?_, ?_⟩
      · unfold l_law_draws_0
        simp (disch := omega) only [hlt, hd, fmod_pos, fdiv_pos, List.length_map, List.map_append, gN, List.set_cons_succ, List.set_cons_zero, bind_ok, bind_bad, bind_exc, at_ok, at_exc, ofO_some, oS_some, nox_okk, g_v, g_s, go_v, go_s, ga_v, ga_o, ga_s, s_z, s_s, fz_o, fz_v, fz_s, e_mGet, e_mC, e_m2, e_m1, e_mT, e_mB, e_mAndB, e_mOrB, e_mNotB, e_mAnd, e_mOr, e_mIf, e_mChain, e_mNil, e_mCons, e_mSeq, e_mCall, e_mNo, e_mPart, e_mCut, e_mIs, e_mIs2, e_mL, e_mDsp, e_mRep, e_mBind, e_mIxO, e_mBor, e_mBorB, e_mItems, e_mWk, e_mRev, e_mYes, e_mLc, e_gN, e_gE, e_gC, e_gTt, e_gTl, e_sNx, e_sThen, e_sDrop, e_sRet, e_sSet, e_sIf, e_sFor, e_sAsg, e_sPar, e_sSetO, e_sSetL, e_ownAt, e_freeze, e_sApp, e_sSetIx, e_sAugIx, e_sAug, e_sPop, e_sPopTo, e_fnM, e_bo_rt, e_bo_nx, e_bo_exc, e_startE, e_wipe0, e_wipe1, d_add, d_addib, d_addl, d_addt, d_sub, d_mul, d_div, d_mod, d_pow, d_cmp, d_neg, d_not, d_iadd, d_iop, d_toB, d_toI, d_trB, d_trI, d_trN, d_trL, d_trT, d_lenL, d_lenT, d_intI, d_intB, d_abs, d_gcd, d_max2, d_min2, d_sumI, d_anyB, d_allB, d_maxL, d_minL, d_listL, d_listT, d_tupL, d_tupT, d_idxL, d_idxT, d_lstL, d_lstT, d_revL, d_itL, d_itT, d_rng1, d_rng2, d_enum1, d_zip2, d_rev1L, d_rev1T, d_cutL, d_cutT, d_rep, d_mTup, d_mLst, d_setD, d_scN, d_scB, d_scI, d_scS, d_isN, d_isNN, d_nN, d_nB, d_nI, d_nS, d_nL, d_nT, if_true, if_false, ite_true, ite_false, reduceIte, List.length_cons, List.length_nil, Nat.zero_add, Nat.reduceAdd, Nat.reduceSub, Nat.reduceEqDiff, List.map_cons, List.map_nil, List.cons_append, List.nil_append, List.replicate, Option.map_some, Option.bind_some, Option.some.injEq, Bool.not_true, Bool.not_false, ne_eq, Bool.false_eq_true, Int.reduceEq, Int.reduceLT, Int.reduceLE, Int.reduceNeg, Int.reduceAdd, Int.reduceSub, Int.reduceMul, Int.reduceToNat, Int.toNat_natCast, Nat.reduceLT, Nat.reduceLeDiff, not_false_eq_true, not_true_eq_false, decide_true, decide_false, List.length_map, List.map_append, fmod_pos, fdiv_pos, and_true, true_and, and_self, Bool.and_true, Bool.or_false, Bool.and_false, Bool.or_true, Bool.true_and, Bool.false_and, ty_li_none, ty_li_bool, ty_li_int, ty_li_str, ty_li_list, ty_li_tuple, ty_tu_none, ty_tu_bool, ty_tu_int, ty_tu_str, ty_tu_list, ty_tu_tuple, ty_bo_none, ty_bo_bool, ty_bo_int, ty_bo_str, ty_bo_list, ty_bo_tuple, ty_in_none, ty_in_bool, ty_in_int, ty_in_str, ty_in_list, ty_in_tuple, ty_st_none, ty_st_bool, ty_st_int, ty_st_str, ty_st_list, ty_st_tuple, eq_int, ne_int, eq_bl, ne_bl, eq_st, ne_st, eq_li, ne_li, at_0, at_1, at_2, at_3, at_4, at_5, in_li, notin_li, c_z, c_s, gx_v, gx_s, e_mIsX, e_sTry, tc_ok, tc_exc, cm_nil, cm_cons, ex_ok, dx_nil, dx_v, dx_o, dx_x, dx_n, at_exx, Int.cast_ofNat_Int, e_mLrg1, e_mLrg2, d_lrg]
      · simp [hlen]
      · intro z hz
        rcases List.mem_append.mp hz with hz | hz
        · exact hb z hz
        · rw [List.mem_singleton] at hz; omega
    | false =>
      obtain ⟨u, u0, u1, eu⟩ : ∃ u : Int, 0 ≤ u ∧ u < 2147483647 ∧ (c * 69621 + ((0 + (i : Int)) + 64 * a0) * 48271 + 13) % 2147483647 = u := ⟨_, by omega, by omega, rfl⟩
      obtain ⟨v, v0, v1, evv⟩ : ∃ v : Int, 0 ≤ v ∧ v < 2147483563 ∧ (u * u + u * 40014 + (0 + (i : Int)) * 7919) % 2147483563 = v := ⟨_, Int.emod_nonneg _ (by decide), Int.emod_lt_of_pos _ (by decide), rfl⟩
      refine ⟨_, [some (.val (li ns)), some (.val (.int a0)), some (.val (.int count)), some (.val (.int c)), some (.val (.bool false)), some (.own ((ds ++ [v / 64 % 5040]).map .int)), some (.val (.int (0 + i))), some (.val (.int v))], rfl, .inl ?_, _, false, ds ++ [v / 64 % 5040], _, _, rfl, ?_, ?_⟩
      · have hd : divOk 64 := divOk_s (by decide) (by decide)
        have m1 : mulOk c 69621 := mulOk_r (by decide) (by decide)
        have m2 : mulOk 64 (a0 : Int) := mulOk_l (by decide) (by decide)
        have m3 : mulOk ((0 + (i : Int)) + 64 * a0) 48271 := mulOk_r (by decide) (by decide)
        have m4 : mulOk u u := mulOk_r (by omega) (by omega)
        have m5 : mulOk u 40014 := mulOk_r (by decide) (by decide)
        have m6 : mulOk (0 + (i : Int)) 7919 := mulOk_r (by decide) (by decide)
        unfold l_law_draws_0
        simp (disch := omega) only [hlt, hd, fmod_pos, fdiv_pos, m1, m2, m3, m4, m5, m6, eu, evv, List.length_map, List.map_append, gN, List.set_cons_succ, List.set_cons_zero, bind_ok, bind_bad, bind_exc, at_ok, at_exc, ofO_some, oS_some, nox_okk, g_v, g_s, go_v, go_s, ga_v, ga_o, ga_s, s_z, s_s, fz_o, fz_v, fz_s, e_mGet, e_mC, e_m2, e_m1, e_mT, e_mB, e_mAndB, e_mOrB, e_mNotB, e_mAnd, e_mOr, e_mIf, e_mChain, e_mNil, e_mCons, e_mSeq, e_mCall, e_mNo, e_mPart, e_mCut, e_mIs, e_mIs2, e_mL, e_mDsp, e_mRep, e_mBind, e_mIxO, e_mBor, e_mBorB, e_mItems, e_mWk, e_mRev, e_mYes, e_mLc, e_gN, e_gE, e_gC, e_gTt, e_gTl, e_sNx, e_sThen, e_sDrop, e_sRet, e_sSet, e_sIf, e_sFor, e_sAsg, e_sPar, e_sSetO, e_sSetL, e_ownAt, e_freeze, e_sApp, e_sSetIx, e_sAugIx, e_sAug, e_sPop, e_sPopTo, e_fnM, e_bo_rt, e_bo_nx, e_bo_exc, e_startE, e_wipe0, e_wipe1, d_add, d_addib, d_addl, d_addt, d_sub, d_mul, d_div, d_mod, d_pow, d_cmp, d_neg, d_not, d_iadd, d_iop, d_toB, d_toI, d_trB, d_trI, d_trN, d_trL, d_trT, d_lenL, d_lenT, d_intI, d_intB, d_abs, d_gcd, d_max2, d_min2, d_sumI, d_anyB, d_allB, d_maxL, d_minL, d_listL, d_listT, d_tupL, d_tupT, d_idxL, d_idxT, d_lstL, d_lstT, d_revL, d_itL, d_itT, d_rng1, d_rng2, d_enum1, d_zip2, d_rev1L, d_rev1T, d_cutL, d_cutT, d_rep, d_mTup, d_mLst, d_setD, d_scN, d_scB, d_scI, d_scS, d_isN, d_isNN, d_nN, d_nB, d_nI, d_nS, d_nL, d_nT, if_true, if_false, ite_true, ite_false, reduceIte, List.length_cons, List.length_nil, Nat.zero_add, Nat.reduceAdd, Nat.reduceSub, Nat.reduceEqDiff, List.map_cons, List.map_nil, List.cons_append, List.nil_append, List.replicate, Option.map_some, Option.bind_some, Option.some.injEq, Bool.not_true, Bool.not_false, ne_eq, Bool.false_eq_true, Int.reduceEq, Int.reduceLT, Int.reduceLE, Int.reduceNeg, Int.reduceAdd, Int.reduceSub, Int.reduceMul, Int.reduceToNat, Int.toNat_natCast, Nat.reduceLT, Nat.reduceLeDiff, not_false_eq_true, not_true_eq_false, decide_true, decide_false, List.length_map, List.map_append, fmod_pos, fdiv_pos, and_true, true_and, and_self, Bool.and_true, Bool.or_false, Bool.and_false, Bool.or_true, Bool.true_and, Bool.false_and, ty_li_none, ty_li_bool, ty_li_int, ty_li_str, ty_li_list, ty_li_tuple, ty_tu_none, ty_tu_bool, ty_tu_int, ty_tu_str, ty_tu_list, ty_tu_tuple, ty_bo_none, ty_bo_bool, ty_bo_int, ty_bo_str, ty_bo_list, ty_bo_tuple, ty_in_none, ty_in_bool, ty_in_int, ty_in_str, ty_in_list, ty_in_tuple, ty_st_none, ty_st_bool, ty_st_int, ty_st_str, ty_st_list, ty_st_tuple, eq_int, ne_int, eq_bl, ne_bl, eq_st, ne_st, eq_li, ne_li, at_0, at_1, at_2, at_3, at_4, at_5, in_li, notin_li, c_z, c_s, gx_v, gx_s, e_mIsX, e_sTry, tc_ok, tc_exc, cm_nil, cm_cons, ex_ok, dx_nil, dx_v, dx_o, dx_x, dx_n, at_exx, Int.cast_ofNat_Int, e_mLrg1, e_mLrg2, d_lrg]
      · simp [hlen]
      · intro z hz
        rcases List.mem_append.mp hz with hz | hz
        · exact hb z hz
        · rw [List.mem_singleton] at hz; omega)
  obtain ⟨ρ', hl1, c', b', ds, x, y, hρ, hlen, hb⟩ := hl
  refine ⟨ds, ?_, hlen, hb⟩
  subst hρ
  unfold m_law_draws b_law_draws
  have e : startE 8 [li ns, .int a0, .int count] = [some (.val (li ns)), some (.val (.int a0)), some (.val (.int count)), none, none, none, none, none] := rfl
  rw [fn_go (n := 3) rfl, e, st_set (d := .int 0) rfl, s_s, s_s, s_s, s_z, hc]
  simp (disch := omega) only [hp, h0, hr, hl1, bind_ok, bind_bad, bind_exc, at_ok, at_exc, ofO_some, oS_some, nox_okk, g_v, g_s, go_v, go_s, ga_v, ga_o, ga_s, s_z, s_s, fz_o, fz_v, fz_s, e_mGet, e_mC, e_m2, e_m1, e_mT, e_mB, e_mAndB, e_mOrB, e_mNotB, e_mAnd, e_mOr, e_mIf, e_mChain, e_mNil, e_mCons, e_mSeq, e_mCall, e_mNo, e_mPart, e_mCut, e_mIs, e_mIs2, e_mL, e_mDsp, e_mRep, e_mBind, e_mIxO, e_mBor, e_mBorB, e_mItems, e_mWk, e_mRev, e_mYes, e_mLc, e_gN, e_gE, e_gC, e_gTt, e_gTl, e_sNx, e_sThen, e_sDrop, e_sRet, e_sSet, e_sIf, e_sFor, e_sAsg, e_sPar, e_sSetO, e_sSetL, e_ownAt, e_freeze, e_sApp, e_sSetIx, e_sAugIx, e_sAug, e_sPop, e_sPopTo, e_fnM, e_bo_rt, e_bo_nx, e_bo_exc, e_startE, e_wipe0, e_wipe1, d_add, d_addib, d_addl, d_addt, d_sub, d_mul, d_div, d_mod, d_pow, d_cmp, d_neg, d_not, d_iadd, d_iop, d_toB, d_toI, d_trB, d_trI, d_trN, d_trL, d_trT, d_lenL, d_lenT, d_intI, d_intB, d_abs, d_gcd, d_max2, d_min2, d_sumI, d_anyB, d_allB, d_maxL, d_minL, d_listL, d_listT, d_tupL, d_tupT, d_idxL, d_idxT, d_lstL, d_lstT, d_revL, d_itL, d_itT, d_rng1, d_rng2, d_enum1, d_zip2, d_rev1L, d_rev1T, d_cutL, d_cutT, d_rep, d_mTup, d_mLst, d_setD, d_scN, d_scB, d_scI, d_scS, d_isN, d_isNN, d_nN, d_nB, d_nI, d_nS, d_nL, d_nT, if_true, if_false, ite_true, ite_false, reduceIte, List.length_cons, List.length_nil, Nat.zero_add, Nat.reduceAdd, Nat.reduceSub, Nat.reduceEqDiff, List.map_cons, List.map_nil, List.cons_append, List.nil_append, List.replicate, Option.map_some, Option.bind_some, Option.some.injEq, Bool.not_true, Bool.not_false, ne_eq, Bool.false_eq_true, Int.reduceEq, Int.reduceLT, Int.reduceLE, Int.reduceNeg, Int.reduceAdd, Int.reduceSub, Int.reduceMul, Int.reduceToNat, Int.toNat_natCast, Nat.reduceLT, Nat.reduceLeDiff, not_false_eq_true, not_true_eq_false, decide_true, decide_false, List.length_map, List.map_append, fmod_pos, fdiv_pos, and_true, true_and, and_self, Bool.and_true, Bool.or_false, Bool.and_false, Bool.or_true, Bool.true_and, Bool.false_and, ty_li_none, ty_li_bool, ty_li_int, ty_li_str, ty_li_list, ty_li_tuple, ty_tu_none, ty_tu_bool, ty_tu_int, ty_tu_str, ty_tu_list, ty_tu_tuple, ty_bo_none, ty_bo_bool, ty_bo_int, ty_bo_str, ty_bo_list, ty_bo_tuple, ty_in_none, ty_in_bool, ty_in_int, ty_in_str, ty_in_list, ty_in_tuple, ty_st_none, ty_st_bool, ty_st_int, ty_st_str, ty_st_list, ty_st_tuple, eq_int, ne_int, eq_bl, ne_bl, eq_st, ne_st, eq_li, ne_li, at_0, at_1, at_2, at_3, at_4, at_5, in_li, notin_li, c_z, c_s, gx_v, gx_s, e_mIsX, e_sTry, tc_ok, tc_exc, cm_nil, cm_cons, ex_ok, dx_nil, dx_v, dx_o, dx_x, dx_n, at_exx, Int.cast_ofNat_Int, e_mLrg1, e_mLrg2, d_lrg]
/-- data are like themselves -/
theorem like_refl : ∀ (k : Nat) (d : PyData), plainD k d → m_law_like k [d, d] = .ok (.bool true) := by
  intro k
  induction k with
  | zero => intro d h; exact h.elim
  | succ k ih =>
    intro d h
    have loop : ∀ (u : PyData) (xs : List PyData), (∀ i, pIdx u (.int i) = L2.atI xs i) → (∀ x ∈ xs, plainD k x) → ∃ ρ', PV.forM (gN 2) (l_law_like_0 (m_law_like k)) (rangeL 0 xs.length) [some (.val u), some (.val u), none] = .ok (.nx, ρ') := by
      intro u xs hu hx
      have := forM_rng (lo := 0) (n := xs.length) (m := gN 2) (body := l_law_like_0 (m_law_like k)) (fun i ρ => ∃ z, ρ = [some (.val u), some (.val u), z]) (ρ := [some (.val u), some (.val u), none]) ⟨none, rfl⟩ (by
        rintro i ρ hi ⟨z, rfl⟩
        have e : L2.atI xs (0 + (i : Int)) = some xs[i] := by
          rw [Int.zero_add]
          exact atI_ok (by omega) (by rw [Int.toNat_natCast, List.getElem?_eq_getElem hi])
        refine ⟨_, [some (.val u), some (.val u), some (.val (.int (0 + i)))], rfl, .inl ?_, _, rfl⟩
        unfold l_law_like_0
        simp (disch := omega) only [gN, List.set_cons_succ, List.set_cons_zero, hu, e, ih _ (hx _ (List.getElem_mem hi)), bind_ok, bind_bad, bind_exc, at_ok, at_exc, ofO_some, oS_some, nox_okk, g_v, g_s, go_v, go_s, ga_v, ga_o, ga_s, s_z, s_s, fz_o, fz_v, fz_s, e_mGet, e_mC, e_m2, e_m1, e_mT, e_mB, e_mAndB, e_mOrB, e_mNotB, e_mAnd, e_mOr, e_mIf, e_mChain, e_mNil, e_mCons, e_mSeq, e_mCall, e_mNo, e_mPart, e_mCut, e_mIs, e_mIs2, e_mL, e_mDsp, e_mRep, e_mBind, e_mIxO, e_mBor, e_mBorB, e_mItems, e_mWk, e_mRev, e_mYes, e_mLc, e_gN, e_gE, e_gC, e_gTt, e_gTl, e_sNx, e_sThen, e_sDrop, e_sRet, e_sSet, e_sIf, e_sFor, e_sAsg, e_sPar, e_sSetO, e_sSetL, e_ownAt, e_freeze, e_sApp, e_sSetIx, e_sAugIx, e_sAug, e_sPop, e_sPopTo, e_fnM, e_bo_rt, e_bo_nx, e_bo_exc, e_startE, e_wipe0, e_wipe1, d_add, d_addib, d_addl, d_addt, d_sub, d_mul, d_div, d_mod, d_pow, d_cmp, d_neg, d_not, d_iadd, d_iop, d_toB, d_toI, d_trB, d_trI, d_trN, d_trL, d_trT, d_lenL, d_lenT, d_intI, d_intB, d_abs, d_gcd, d_max2, d_min2, d_sumI, d_anyB, d_allB, d_maxL, d_minL, d_listL, d_listT, d_tupL, d_tupT, d_idxL, d_idxT, d_lstL, d_lstT, d_revL, d_itL, d_itT, d_rng1, d_rng2, d_enum1, d_zip2, d_rev1L, d_rev1T, d_cutL, d_cutT, d_rep, d_mTup, d_mLst, d_setD, d_scN, d_scB, d_scI, d_scS, d_isN, d_isNN, d_nN, d_nB, d_nI, d_nS, d_nL, d_nT, if_true, if_false, ite_true, ite_false, reduceIte, List.length_cons, List.length_nil, Nat.zero_add, Nat.reduceAdd, Nat.reduceSub, Nat.reduceEqDiff, List.map_cons, List.map_nil, List.cons_append, List.nil_append, List.replicate, Option.map_some, Option.bind_some, Option.some.injEq, Bool.not_true, Bool.not_false, ne_eq, Bool.false_eq_true, Int.reduceEq, Int.reduceLT, Int.reduceLE, Int.reduceNeg, Int.reduceAdd, Int.reduceSub, Int.reduceMul, Int.reduceToNat, Int.toNat_natCast, Nat.reduceLT, Nat.reduceLeDiff, not_false_eq_true, not_true_eq_false, decide_true, decide_false, List.length_map, List.map_append, fmod_pos, fdiv_pos, and_true, true_and, and_self, Bool.and_true, Bool.or_false, Bool.and_false, Bool.or_true, Bool.true_and, Bool.false_and, ty_li_none, ty_li_bool, ty_li_int, ty_li_str, ty_li_list, ty_li_tuple, ty_tu_none, ty_tu_bool, ty_tu_int, ty_tu_str, ty_tu_list, ty_tu_tuple, ty_bo_none, ty_bo_bool, ty_bo_int, ty_bo_str, ty_bo_list, ty_bo_tuple, ty_in_none, ty_in_bool, ty_in_int, ty_in_str, ty_in_list, ty_in_tuple, ty_st_none, ty_st_bool, ty_st_int, ty_st_str, ty_st_list, ty_st_tuple, eq_int, ne_int, eq_bl, ne_bl, eq_st, ne_st, eq_li, ne_li, at_0, at_1, at_2, at_3, at_4, at_5, in_li, notin_li, c_z, c_s, gx_v, gx_s, e_mIsX, e_sTry, tc_ok, tc_exc, cm_nil, cm_cons, ex_ok, dx_nil, dx_v, dx_o, dx_x, dx_n, at_exx, Int.cast_ofNat_Int, e_mLrg1, e_mLrg2, d_lrg])
      obtain ⟨ρ', h1, _⟩ := this
      exact ⟨ρ', h1⟩
    unfold m_law_like
    rw [fn_go (n := 2) rfl]
    unfold b_law_like
    have e : startE 3 [d, d] = [some (.val d), some (.val d), none] := rfl
    rw [e]
    cases d with
    | none => simp (disch := omega) only [bind_ok, bind_bad, bind_exc, at_ok, at_exc, ofO_some, oS_some, nox_okk, g_v, g_s, go_v, go_s, ga_v, ga_o, ga_s, s_z, s_s, fz_o, fz_v, fz_s, e_mGet, e_mC, e_m2, e_m1, e_mT, e_mB, e_mAndB, e_mOrB, e_mNotB, e_mAnd, e_mOr, e_mIf, e_mChain, e_mNil, e_mCons, e_mSeq, e_mCall, e_mNo, e_mPart, e_mCut, e_mIs, e_mIs2, e_mL, e_mDsp, e_mRep, e_mBind, e_mIxO, e_mBor, e_mBorB, e_mItems, e_mWk, e_mRev, e_mYes, e_mLc, e_gN, e_gE, e_gC, e_gTt, e_gTl, e_sNx, e_sThen, e_sDrop, e_sRet, e_sSet, e_sIf, e_sFor, e_sAsg, e_sPar, e_sSetO, e_sSetL, e_ownAt, e_freeze, e_sApp, e_sSetIx, e_sAugIx, e_sAug, e_sPop, e_sPopTo, e_fnM, e_bo_rt, e_bo_nx, e_bo_exc, e_startE, e_wipe0, e_wipe1, d_add, d_addib, d_addl, d_addt, d_sub, d_mul, d_div, d_mod, d_pow, d_cmp, d_neg, d_not, d_iadd, d_iop, d_toB, d_toI, d_trB, d_trI, d_trN, d_trL, d_trT, d_lenL, d_lenT, d_intI, d_intB, d_abs, d_gcd, d_max2, d_min2, d_sumI, d_anyB, d_allB, d_maxL, d_minL, d_listL, d_listT, d_tupL, d_tupT, d_idxL, d_idxT, d_lstL, d_lstT, d_revL, d_itL, d_itT, d_rng1, d_rng2, d_enum1, d_zip2, d_rev1L, d_rev1T, d_cutL, d_cutT, d_rep, d_mTup, d_mLst, d_setD, d_scN, d_scB, d_scI, d_scS, d_isN, d_isNN, d_nN, d_nB, d_nI, d_nS, d_nL, d_nT, if_true, if_false, ite_true, ite_false, reduceIte, List.length_cons, List.length_nil, Nat.zero_add, Nat.reduceAdd, Nat.reduceSub, Nat.reduceEqDiff, List.map_cons, List.map_nil, List.cons_append, List.nil_append, List.replicate, Option.map_some, Option.bind_some, Option.some.injEq, Bool.not_true, Bool.not_false, ne_eq, Bool.false_eq_true, Int.reduceEq, Int.reduceLT, Int.reduceLE, Int.reduceNeg, Int.reduceAdd, Int.reduceSub, Int.reduceMul, Int.reduceToNat, Int.toNat_natCast, Nat.reduceLT, Nat.reduceLeDiff, not_false_eq_true, not_true_eq_false, decide_true, decide_false, List.length_map, List.map_append, fmod_pos, fdiv_pos, and_true, true_and, and_self, Bool.and_true, Bool.or_false, Bool.and_false, Bool.or_true, Bool.true_and, Bool.false_and, ty_li_none, ty_li_bool, ty_li_int, ty_li_str, ty_li_list, ty_li_tuple, ty_tu_none, ty_tu_bool, ty_tu_int, ty_tu_str, ty_tu_list, ty_tu_tuple, ty_bo_none, ty_bo_bool, ty_bo_int, ty_bo_str, ty_bo_list, ty_bo_tuple, ty_in_none, ty_in_bool, ty_in_int, ty_in_str, ty_in_list, ty_in_tuple, ty_st_none, ty_st_bool, ty_st_int, ty_st_str, ty_st_list, ty_st_tuple, eq_int, ne_int, eq_bl, ne_bl, eq_st, ne_st, eq_li, ne_li, at_0, at_1, at_2, at_3, at_4, at_5, in_li, notin_li, c_z, c_s, gx_v, gx_s, e_mIsX, e_sTry, tc_ok, tc_exc, cm_nil, cm_cons, ex_ok, dx_nil, dx_v, dx_o, dx_x, dx_n, at_exx, Int.cast_ofNat_Int, e_mLrg1, e_mLrg2, d_lrg]
    | bool b => simp (disch := omega) only [bind_ok, bind_bad, bind_exc, at_ok, at_exc, ofO_some, oS_some, nox_okk, g_v, g_s, go_v, go_s, ga_v, ga_o, ga_s, s_z, s_s, fz_o, fz_v, fz_s, e_mGet, e_mC, e_m2, e_m1, e_mT, e_mB, e_mAndB, e_mOrB, e_mNotB, e_mAnd, e_mOr, e_mIf, e_mChain, e_mNil, e_mCons, e_mSeq, e_mCall, e_mNo, e_mPart, e_mCut, e_mIs, e_mIs2, e_mL, e_mDsp, e_mRep, e_mBind, e_mIxO, e_mBor, e_mBorB, e_mItems, e_mWk, e_mRev, e_mYes, e_mLc, e_gN, e_gE, e_gC, e_gTt, e_gTl, e_sNx, e_sThen, e_sDrop, e_sRet, e_sSet, e_sIf, e_sFor, e_sAsg, e_sPar, e_sSetO, e_sSetL, e_ownAt, e_freeze, e_sApp, e_sSetIx, e_sAugIx, e_sAug, e_sPop, e_sPopTo, e_fnM, e_bo_rt, e_bo_nx, e_bo_exc, e_startE, e_wipe0, e_wipe1, d_add, d_addib, d_addl, d_addt, d_sub, d_mul, d_div, d_mod, d_pow, d_cmp, d_neg, d_not, d_iadd, d_iop, d_toB, d_toI, d_trB, d_trI, d_trN, d_trL, d_trT, d_lenL, d_lenT, d_intI, d_intB, d_abs, d_gcd, d_max2, d_min2, d_sumI, d_anyB, d_allB, d_maxL, d_minL, d_listL, d_listT, d_tupL, d_tupT, d_idxL, d_idxT, d_lstL, d_lstT, d_revL, d_itL, d_itT, d_rng1, d_rng2, d_enum1, d_zip2, d_rev1L, d_rev1T, d_cutL, d_cutT, d_rep, d_mTup, d_mLst, d_setD, d_scN, d_scB, d_scI, d_scS, d_isN, d_isNN, d_nN, d_nB, d_nI, d_nS, d_nL, d_nT, if_true, if_false, ite_true, ite_false, reduceIte, List.length_cons, List.length_nil, Nat.zero_add, Nat.reduceAdd, Nat.reduceSub, Nat.reduceEqDiff, List.map_cons, List.map_nil, List.cons_append, List.nil_append, List.replicate, Option.map_some, Option.bind_some, Option.some.injEq, Bool.not_true, Bool.not_false, ne_eq, Bool.false_eq_true, Int.reduceEq, Int.reduceLT, Int.reduceLE, Int.reduceNeg, Int.reduceAdd, Int.reduceSub, Int.reduceMul, Int.reduceToNat, Int.toNat_natCast, Nat.reduceLT, Nat.reduceLeDiff, not_false_eq_true, not_true_eq_false, decide_true, decide_false, List.length_map, List.map_append, fmod_pos, fdiv_pos, and_true, true_and, and_self, Bool.and_true, Bool.or_false, Bool.and_false, Bool.or_true, Bool.true_and, Bool.false_and, ty_li_none, ty_li_bool, ty_li_int, ty_li_str, ty_li_list, ty_li_tuple, ty_tu_none, ty_tu_bool, ty_tu_int, ty_tu_str, ty_tu_list, ty_tu_tuple, ty_bo_none, ty_bo_bool, ty_bo_int, ty_bo_str, ty_bo_list, ty_bo_tuple, ty_in_none, ty_in_bool, ty_in_int, ty_in_str, ty_in_list, ty_in_tuple, ty_st_none, ty_st_bool, ty_st_int, ty_st_str, ty_st_list, ty_st_tuple, eq_int, ne_int, eq_bl, ne_bl, eq_st, ne_st, eq_li, ne_li, at_0, at_1, at_2, at_3, at_4, at_5, in_li, notin_li, c_z, c_s, gx_v, gx_s, e_mIsX, e_sTry, tc_ok, tc_exc, cm_nil, cm_cons, ex_ok, dx_nil, dx_v, dx_o, dx_x, dx_n, at_exx, Int.cast_ofNat_Int, e_mLrg1, e_mLrg2, d_lrg]
    | int i => simp (disch := omega) only [bind_ok, bind_bad, bind_exc, at_ok, at_exc, ofO_some, oS_some, nox_okk, g_v, g_s, go_v, go_s, ga_v, ga_o, ga_s, s_z, s_s, fz_o, fz_v, fz_s, e_mGet, e_mC, e_m2, e_m1, e_mT, e_mB, e_mAndB, e_mOrB, e_mNotB, e_mAnd, e_mOr, e_mIf, e_mChain, e_mNil, e_mCons, e_mSeq, e_mCall, e_mNo, e_mPart, e_mCut, e_mIs, e_mIs2, e_mL, e_mDsp, e_mRep, e_mBind, e_mIxO, e_mBor, e_mBorB, e_mItems, e_mWk, e_mRev, e_mYes, e_mLc, e_gN, e_gE, e_gC, e_gTt, e_gTl, e_sNx, e_sThen, e_sDrop, e_sRet, e_sSet, e_sIf, e_sFor, e_sAsg, e_sPar, e_sSetO, e_sSetL, e_ownAt, e_freeze, e_sApp, e_sSetIx, e_sAugIx, e_sAug, e_sPop, e_sPopTo, e_fnM, e_bo_rt, e_bo_nx, e_bo_exc, e_startE, e_wipe0, e_wipe1, d_add, d_addib, d_addl, d_addt, d_sub, d_mul, d_div, d_mod, d_pow, d_cmp, d_neg, d_not, d_iadd, d_iop, d_toB, d_toI, d_trB, d_trI, d_trN, d_trL, d_trT, d_lenL, d_lenT, d_intI, d_intB, d_abs, d_gcd, d_max2, d_min2, d_sumI, d_anyB, d_allB, d_maxL, d_minL, d_listL, d_listT, d_tupL, d_tupT, d_idxL, d_idxT, d_lstL, d_lstT, d_revL, d_itL, d_itT, d_rng1, d_rng2, d_enum1, d_zip2, d_rev1L, d_rev1T, d_cutL, d_cutT, d_rep, d_mTup, d_mLst, d_setD, d_scN, d_scB, d_scI, d_scS, d_isN, d_isNN, d_nN, d_nB, d_nI, d_nS, d_nL, d_nT, if_true, if_false, ite_true, ite_false, reduceIte, List.length_cons, List.length_nil, Nat.zero_add, Nat.reduceAdd, Nat.reduceSub, Nat.reduceEqDiff, List.map_cons, List.map_nil, List.cons_append, List.nil_append, List.replicate, Option.map_some, Option.bind_some, Option.some.injEq, Bool.not_true, Bool.not_false, ne_eq, Bool.false_eq_true, Int.reduceEq, Int.reduceLT, Int.reduceLE, Int.reduceNeg, Int.reduceAdd, Int.reduceSub, Int.reduceMul, Int.reduceToNat, Int.toNat_natCast, Nat.reduceLT, Nat.reduceLeDiff, not_false_eq_true, not_true_eq_false, decide_true, decide_false, List.length_map, List.map_append, fmod_pos, fdiv_pos, and_true, true_and, and_self, Bool.and_true, Bool.or_false, Bool.and_false, Bool.or_true, Bool.true_and, Bool.false_and, ty_li_none, ty_li_bool, ty_li_int, ty_li_str, ty_li_list, ty_li_tuple, ty_tu_none, ty_tu_bool, ty_tu_int, ty_tu_str, ty_tu_list, ty_tu_tuple, ty_bo_none, ty_bo_bool, ty_bo_int, ty_bo_str, ty_bo_list, ty_bo_tuple, ty_in_none, ty_in_bool, ty_in_int, ty_in_str, ty_in_list, ty_in_tuple, ty_st_none, ty_st_bool, ty_st_int, ty_st_str, ty_st_list, ty_st_tuple, eq_int, ne_int, eq_bl, ne_bl, eq_st, ne_st, eq_li, ne_li, at_0, at_1, at_2, at_3, at_4, at_5, in_li, notin_li, c_z, c_s, gx_v, gx_s, e_mIsX, e_sTry, tc_ok, tc_exc, cm_nil, cm_cons, ex_ok, dx_nil, dx_v, dx_o, dx_x, dx_n, at_exx, Int.cast_ofNat_Int, e_mLrg1, e_mLrg2, d_lrg]
    | str x => simp (disch := omega) only [bind_ok, bind_bad, bind_exc, at_ok, at_exc, ofO_some, oS_some, nox_okk, g_v, g_s, go_v, go_s, ga_v, ga_o, ga_s, s_z, s_s, fz_o, fz_v, fz_s, e_mGet, e_mC, e_m2, e_m1, e_mT, e_mB, e_mAndB, e_mOrB, e_mNotB, e_mAnd, e_mOr, e_mIf, e_mChain, e_mNil, e_mCons, e_mSeq, e_mCall, e_mNo, e_mPart, e_mCut, e_mIs, e_mIs2, e_mL, e_mDsp, e_mRep, e_mBind, e_mIxO, e_mBor, e_mBorB, e_mItems, e_mWk, e_mRev, e_mYes, e_mLc, e_gN, e_gE, e_gC, e_gTt, e_gTl, e_sNx, e_sThen, e_sDrop, e_sRet, e_sSet, e_sIf, e_sFor, e_sAsg, e_sPar, e_sSetO, e_sSetL, e_ownAt, e_freeze, e_sApp, e_sSetIx, e_sAugIx, e_sAug, e_sPop, e_sPopTo, e_fnM, e_bo_rt, e_bo_nx, e_bo_exc, e_startE, e_wipe0, e_wipe1, d_add, d_addib, d_addl, d_addt, d_sub, d_mul, d_div, d_mod, d_pow, d_cmp, d_neg, d_not, d_iadd, d_iop, d_toB, d_toI, d_trB, d_trI, d_trN, d_trL, d_trT, d_lenL, d_lenT, d_intI, d_intB, d_abs, d_gcd, d_max2, d_min2, d_sumI, d_anyB, d_allB, d_maxL, d_minL, d_listL, d_listT, d_tupL, d_tupT, d_idxL, d_idxT, d_lstL, d_lstT, d_revL, d_itL, d_itT, d_rng1, d_rng2, d_enum1, d_zip2, d_rev1L, d_rev1T, d_cutL, d_cutT, d_rep, d_mTup, d_mLst, d_setD, d_scN, d_scB, d_scI, d_scS, d_isN, d_isNN, d_nN, d_nB, d_nI, d_nS, d_nL, d_nT, if_true, if_false, ite_true, ite_false, reduceIte, List.length_cons, List.length_nil, Nat.zero_add, Nat.reduceAdd, Nat.reduceSub, Nat.reduceEqDiff, List.map_cons, List.map_nil, List.cons_append, List.nil_append, List.replicate, Option.map_some, Option.bind_some, Option.some.injEq, Bool.not_true, Bool.not_false, ne_eq, Bool.false_eq_true, Int.reduceEq, Int.reduceLT, Int.reduceLE, Int.reduceNeg, Int.reduceAdd, Int.reduceSub, Int.reduceMul, Int.reduceToNat, Int.toNat_natCast, Nat.reduceLT, Nat.reduceLeDiff, not_false_eq_true, not_true_eq_false, decide_true, decide_false, List.length_map, List.map_append, fmod_pos, fdiv_pos, and_true, true_and, and_self, Bool.and_true, Bool.or_false, Bool.and_false, Bool.or_true, Bool.true_and, Bool.false_and, ty_li_none, ty_li_bool, ty_li_int, ty_li_str, ty_li_list, ty_li_tuple, ty_tu_none, ty_tu_bool, ty_tu_int, ty_tu_str, ty_tu_list, ty_tu_tuple, ty_bo_none, ty_bo_bool, ty_bo_int, ty_bo_str, ty_bo_list, ty_bo_tuple, ty_in_none, ty_in_bool, ty_in_int, ty_in_str, ty_in_list, ty_in_tuple, ty_st_none, ty_st_bool, ty_st_int, ty_st_str, ty_st_list, ty_st_tuple, eq_int, ne_int, eq_bl, ne_bl, eq_st, ne_st, eq_li, ne_li, at_0, at_1, at_2, at_3, at_4, at_5, in_li, notin_li, c_z, c_s, gx_v, gx_s, e_mIsX, e_sTry, tc_ok, tc_exc, cm_nil, cm_cons, ex_ok, dx_nil, dx_v, dx_o, dx_x, dx_n, at_exx, Int.cast_ofNat_Int, e_mLrg1, e_mLrg2, d_lrg]
    | dict kv => exact h.elim
    | list xs =>
      have hr : r62 (xs.length : Int) := r62_s (by have := h.1; omega) (by have := h.1; omega)
      obtain ⟨ρ', h1⟩ := loop (.list xs) xs (fun _ => rfl) h.2
      simp (disch := omega) only [hr, h1, Bool.or_true, Bool.true_or, Bool.or_false, bind_ok, bind_bad, bind_exc, at_ok, at_exc, ofO_some, oS_some, nox_okk, g_v, g_s, go_v, go_s, ga_v, ga_o, ga_s, s_z, s_s, fz_o, fz_v, fz_s, e_mGet, e_mC, e_m2, e_m1, e_mT, e_mB, e_mAndB, e_mOrB, e_mNotB, e_mAnd, e_mOr, e_mIf, e_mChain, e_mNil, e_mCons, e_mSeq, e_mCall, e_mNo, e_mPart, e_mCut, e_mIs, e_mIs2, e_mL, e_mDsp, e_mRep, e_mBind, e_mIxO, e_mBor, e_mBorB, e_mItems, e_mWk, e_mRev, e_mYes, e_mLc, e_gN, e_gE, e_gC, e_gTt, e_gTl, e_sNx, e_sThen, e_sDrop, e_sRet, e_sSet, e_sIf, e_sFor, e_sAsg, e_sPar, e_sSetO, e_sSetL, e_ownAt, e_freeze, e_sApp, e_sSetIx, e_sAugIx, e_sAug, e_sPop, e_sPopTo, e_fnM, e_bo_rt, e_bo_nx, e_bo_exc, e_startE, e_wipe0, e_wipe1, d_add, d_addib, d_addl, d_addt, d_sub, d_mul, d_div, d_mod, d_pow, d_cmp, d_neg, d_not, d_iadd, d_iop, d_toB, d_toI, d_trB, d_trI, d_trN, d_trL, d_trT, d_lenL, d_lenT, d_intI, d_intB, d_abs, d_gcd, d_max2, d_min2, d_sumI, d_anyB, d_allB, d_maxL, d_minL, d_listL, d_listT, d_tupL, d_tupT, d_idxL, d_idxT, d_lstL, d_lstT, d_revL, d_itL, d_itT, d_rng1, d_rng2, d_enum1, d_zip2, d_rev1L, d_rev1T, d_cutL, d_cutT, d_rep, d_mTup, d_mLst, d_setD, d_scN, d_scB, d_scI, d_scS, d_isN, d_isNN, d_nN, d_nB, d_nI, d_nS, d_nL, d_nT, if_true, if_false, ite_true, ite_false, reduceIte, List.length_cons, List.length_nil, Nat.zero_add, Nat.reduceAdd, Nat.reduceSub, Nat.reduceEqDiff, List.map_cons, List.map_nil, List.cons_append, List.nil_append, List.replicate, Option.map_some, Option.bind_some, Option.some.injEq, Bool.not_true, Bool.not_false, ne_eq, Bool.false_eq_true, Int.reduceEq, Int.reduceLT, Int.reduceLE, Int.reduceNeg, Int.reduceAdd, Int.reduceSub, Int.reduceMul, Int.reduceToNat, Int.toNat_natCast, Nat.reduceLT, Nat.reduceLeDiff, not_false_eq_true, not_true_eq_false, decide_true, decide_false, List.length_map, List.map_append, fmod_pos, fdiv_pos, and_true, true_and, and_self, Bool.and_true, Bool.or_false, Bool.and_false, Bool.or_true, Bool.true_and, Bool.false_and, ty_li_none, ty_li_bool, ty_li_int, ty_li_str, ty_li_list, ty_li_tuple, ty_tu_none, ty_tu_bool, ty_tu_int, ty_tu_str, ty_tu_list, ty_tu_tuple, ty_bo_none, ty_bo_bool, ty_bo_int, ty_bo_str, ty_bo_list, ty_bo_tuple, ty_in_none, ty_in_bool, ty_in_int, ty_in_str, ty_in_list, ty_in_tuple, ty_st_none, ty_st_bool, ty_st_int, ty_st_str, ty_st_list, ty_st_tuple, eq_int, ne_int, eq_bl, ne_bl, eq_st, ne_st, eq_li, ne_li, at_0, at_1, at_2, at_3, at_4, at_5, in_li, notin_li, c_z, c_s, gx_v, gx_s, e_mIsX, e_sTry, tc_ok, tc_exc, cm_nil, cm_cons, ex_ok, dx_nil, dx_v, dx_o, dx_x, dx_n, at_exx, Int.cast_ofNat_Int, e_mLrg1, e_mLrg2, d_lrg]
    | tuple xs =>
      have hr : r62 (xs.length : Int) := r62_s (by have := h.1; omega) (by have := h.1; omega)
      obtain ⟨ρ', h1⟩ := loop (.tuple xs) xs (fun _ => rfl) h.2
      simp (disch := omega) only [hr, h1, Bool.or_true, Bool.true_or, Bool.or_false, bind_ok, bind_bad, bind_exc, at_ok, at_exc, ofO_some, oS_some, nox_okk, g_v, g_s, go_v, go_s, ga_v, ga_o, ga_s, s_z, s_s, fz_o, fz_v, fz_s, e_mGet, e_mC, e_m2, e_m1, e_mT, e_mB, e_mAndB, e_mOrB, e_mNotB, e_mAnd, e_mOr, e_mIf, e_mChain, e_mNil, e_mCons, e_mSeq, e_mCall, e_mNo, e_mPart, e_mCut, e_mIs, e_mIs2, e_mL, e_mDsp, e_mRep, e_mBind, e_mIxO, e_mBor, e_mBorB, e_mItems, e_mWk, e_mRev, e_mYes, e_mLc, e_gN, e_gE, e_gC, e_gTt, e_gTl, e_sNx, e_sThen, e_sDrop, e_sRet, e_sSet, e_sIf, e_sFor, e_sAsg, e_sPar, e_sSetO, e_sSetL, e_ownAt, e_freeze, e_sApp, e_sSetIx, e_sAugIx, e_sAug, e_sPop, e_sPopTo, e_fnM, e_bo_rt, e_bo_nx, e_bo_exc, e_startE, e_wipe0, e_wipe1, d_add, d_addib, d_addl, d_addt, d_sub, d_mul, d_div, d_mod, d_pow, d_cmp, d_neg, d_not, d_iadd, d_iop, d_toB, d_toI, d_trB, d_trI, d_trN, d_trL, d_trT, d_lenL, d_lenT, d_intI, d_intB, d_abs, d_gcd, d_max2, d_min2, d_sumI, d_anyB, d_allB, d_maxL, d_minL, d_listL, d_listT, d_tupL, d_tupT, d_idxL, d_idxT, d_lstL, d_lstT, d_revL, d_itL, d_itT, d_rng1, d_rng2, d_enum1, d_zip2, d_rev1L, d_rev1T, d_cutL, d_cutT, d_rep, d_mTup, d_mLst, d_setD, d_scN, d_scB, d_scI, d_scS, d_isN, d_isNN, d_nN, d_nB, d_nI, d_nS, d_nL, d_nT, if_true, if_false, ite_true, ite_false, reduceIte, List.length_cons, List.length_nil, Nat.zero_add, Nat.reduceAdd, Nat.reduceSub, Nat.reduceEqDiff, List.map_cons, List.map_nil, List.cons_append, List.nil_append, List.replicate, Option.map_some, Option.bind_some, Option.some.injEq, Bool.not_true, Bool.not_false, ne_eq, Bool.false_eq_true, Int.reduceEq, Int.reduceLT, Int.reduceLE, Int.reduceNeg, Int.reduceAdd, Int.reduceSub, Int.reduceMul, Int.reduceToNat, Int.toNat_natCast, Nat.reduceLT, Nat.reduceLeDiff, not_false_eq_true, not_true_eq_false, decide_true, decide_false, List.length_map, List.map_append, fmod_pos, fdiv_pos, and_true, true_and, and_self, Bool.and_true, Bool.or_false, Bool.and_false, Bool.or_true, Bool.true_and, Bool.false_and, ty_li_none, ty_li_bool, ty_li_int, ty_li_str, ty_li_list, ty_li_tuple, ty_tu_none, ty_tu_bool, ty_tu_int, ty_tu_str, ty_tu_list, ty_tu_tuple, ty_bo_none, ty_bo_bool, ty_bo_int, ty_bo_str, ty_bo_list, ty_bo_tuple, ty_in_none, ty_in_bool, ty_in_int, ty_in_str, ty_in_list, ty_in_tuple, ty_st_none, ty_st_bool, ty_st_int, ty_st_str, ty_st_list, ty_st_tuple, eq_int, ne_int, eq_bl, ne_bl, eq_st, ne_st, eq_li, ne_li, at_0, at_1, at_2, at_3, at_4, at_5, in_li, notin_li, c_z, c_s, gx_v, gx_s, e_mIsX, e_sTry, tc_ok, tc_exc, cm_nil, cm_cons, ex_ok, dx_nil, dx_v, dx_o, dx_x, dx_n, at_exx, Int.cast_ofNat_Int, e_mLrg1, e_mLrg2, d_lrg]
theorem like_li (ns : List Int) (h : ns.length < 2 ^ 62) : m_law_like 8 [li ns, li ns] = .ok (.bool true) := like_refl 8 _ (plain_li (k := 6) h)
/-! wear, plainly: a list of (first beat, bends) of the wheels -/
def Cm (p f b : Int) : Int := (b - f) / p + 1
def We (p : Int) (its : List (Int × Int)) (b : Int) : Int := (its.map fun x => x.2 * Cm p x.1 b).sum
def Tw (its : List (Int × Int)) : Int := (its.map fun x => x.2).sum
def Sl (its : List (Int × Int)) (r : Int) : Int := (its.map fun x => if x.1 ≤ r then x.2 else 0).sum
theorem sum_perm {a b : List Int} (h : a.Perm b) : a.sum = b.sum := by
  induction h with
  | nil => rfl
  | cons x _ ih => rw [List.sum_cons, List.sum_cons, ih]
  | swap x y l => simp only [List.sum_cons]; omega
  | trans _ _ h1 h2 => exact h1.trans h2
theorem Sl_perm {a b : List (Int × Int)} (h : a.Perm b) (r : Int) : Sl a r = Sl b r := sum_perm (h.map _)
theorem Tw_perm {a b : List (Int × Int)} (h : a.Perm b) : Tw a = Tw b := sum_perm (h.map _)
theorem Cm_in {p f r t : Int} (h1 : 1 ≤ f) (h2 : f ≤ p) (h3 : 0 ≤ r) (h4 : r ≤ p) : Cm p f (t * p + r) = t + if f ≤ r then 1 else 0 := by
  unfold Cm
  have e : t * p + r - f = (r - f) + p * t := by rw [Int.mul_comm p t]; omega
  rw [e, Int.add_mul_ediv_left _ _ (by omega)]
  by_cases c : f ≤ r
  · rw [if_pos c, Int.ediv_eq_zero_of_lt (by omega) (by omega)]; omega
  · rw [if_neg c]
    have : r - f = (r - f + p) + p * (-1) := by omega
    rw [this, Int.add_mul_ediv_left _ _ (by omega), Int.ediv_eq_zero_of_lt (by omega) (by omega)]; omega
theorem We_in {p r t : Int} (h3 : 0 ≤ r) (h4 : r ≤ p) : ∀ {its : List (Int × Int)}, (∀ x ∈ its, 1 ≤ x.1 ∧ x.1 ≤ p) → We p its (t * p + r) = t * Tw its + Sl its r
  | [], _ => by simp [We, Tw, Sl]
  | x :: l, h => by
    have ih := We_in h3 h4 (its := l) (t := t) (fun y hy => h y (List.mem_cons_of_mem _ hy))
    obtain ⟨a, b⟩ := h x (List.mem_cons_self ..)
    unfold We Tw Sl at *
    simp only [List.map_cons, List.sum_cons]
    rw [ih, Cm_in a b h3 h4, Int.mul_add, Int.mul_add, Int.mul_comm x.2 t]
    split <;> omega
theorem Cm_mono {p f b c : Int} (hp : 0 < p) (h : b ≤ c) : Cm p f b ≤ Cm p f c := by
  unfold Cm
  have := Int.ediv_le_ediv hp (show b - f ≤ c - f by omega)
  omega
theorem We_mono {p b c : Int} (hp : 0 < p) (h : b ≤ c) : ∀ {its : List (Int × Int)}, (∀ x ∈ its, 0 ≤ x.2) → We p its b ≤ We p its c
  | [], _ => Int.le_refl _
  | x :: l, hx => by
    have ih := We_mono hp h (its := l) (fun y hy => hx y (List.mem_cons_of_mem _ hy))
    have h1 := Int.mul_le_mul_of_nonneg_left (Cm_mono (f := x.1) hp h) (hx x (List.mem_cons_self ..))
    unfold We at *
    simp only [List.map_cons, List.sum_cons]
    omega
/-- the program's walk over the sorted wheels -/
def runW (base : Int) : List (Int × Int) → Int → Int → Int
  | [], _, fd => fd
  | (f, b) :: r, l, fd => if l > 0 then runW base r (l - b) (base + f) else runW base r l fd
theorem runW_done (base : Int) : ∀ (its : List (Int × Int)) (l fd : Int), l ≤ 0 → runW base its l fd = fd
  | [], _, _, _ => rfl
  | (f, b) :: r, l, fd, h => by
    unfold runW
    rw [if_neg (by omega)]
    exact runW_done base r l fd h
theorem Sl_low : ∀ {its : List (Int × Int)} {r : Int}, (∀ x ∈ its, r < x.1) → Sl its r = 0
  | [], _, _ => rfl
  | x :: l, r, h => by
    have ih := Sl_low (its := l) (r := r) (fun y hy => h y (List.mem_cons_of_mem _ hy))
    have hx := h x (List.mem_cons_self ..)
    unfold Sl at *
    simp only [List.map_cons, List.sum_cons]
    rw [ih, if_neg (by omega)]; rfl
theorem Sl_nonneg : ∀ {its : List (Int × Int)} {r : Int}, (∀ x ∈ its, 0 ≤ x.2) → 0 ≤ Sl its r
  | [], _, _ => Int.le_refl _
  | x :: l, r, h => by
    have ih := Sl_nonneg (its := l) (r := r) (fun y hy => h y (List.mem_cons_of_mem _ hy))
    have hx := h x (List.mem_cons_self ..)
    unfold Sl at *
    simp only [List.map_cons, List.sum_cons]
    split <;> omega
theorem Sl_cons (x : Int × Int) (l : List (Int × Int)) (r : Int) : Sl (x :: l) r = (if x.1 ≤ r then x.2 else 0) + Sl l r := by
  unfold Sl; rw [List.map_cons, List.sum_cons]
theorem Tw_cons (x : Int × Int) (l : List (Int × Int)) : Tw (x :: l) = x.2 + Tw l := by
  unfold Tw; rw [List.map_cons, List.sum_cons]
theorem runW_ok (base : Int) : ∀ (its : List (Int × Int)) (l fd : Int), List.Pairwise (fun x y => x.1 ≤ y.1) its → (∀ x ∈ its, 0 ≤ x.2) → 0 < l → l ≤ Tw its →
    ∃ x ∈ its, runW base its l fd = base + x.1 ∧ l ≤ Sl its x.1 ∧ Sl its (x.1 - 1) < l
  | [], l, fd, _, _, h1, h2 => by
    have : Tw [] = 0 := rfl
    omega
  | (f, b) :: r, l, fd, hp, hb, h1, h2 => by
    rw [List.pairwise_cons] at hp
    have hb0 := hb (f, b) (List.mem_cons_self ..)
    have hbr : ∀ x ∈ r, 0 ≤ x.2 := fun x hx => hb x (List.mem_cons_of_mem _ hx)
    simp only at hb0
    rw [Tw_cons] at h2
    unfold runW
    rw [if_pos h1]
    by_cases c : l - b ≤ 0
    · refine ⟨(f, b), List.mem_cons_self .., runW_done base r _ _ c, ?_, ?_⟩
      · rw [Sl_cons, if_pos (Int.le_refl _)]
        have := Sl_nonneg (r := f) hbr
        simp only
        omega
      · rw [Sl_cons, if_neg (by simp only; omega), Sl_low (fun x hx => by have := hp.1 x hx; simp only at this ⊢; omega)]
        omega
    · obtain ⟨x, hx, e1, e2, e3⟩ := runW_ok base r (l - b) (base + f) hp.2 hbr (by omega) (by simp only at h2; omega)
      have hfx := hp.1 x hx
      simp only at hfx
      refine ⟨x, List.mem_cons_of_mem _ hx, e1, ?_, ?_⟩
      · rw [Sl_cons, if_pos (by simp only; exact hfx)]
        simp only
        omega
      · rw [Sl_cons]
        show (if f ≤ x.1 - 1 then b else 0) + Sl r (x.1 - 1) < l
        split <;> omega
/-- the beat at which a piece is worn -/
def Wn (p most : Int) (its : List (Int × Int)) : Int := runW ((most - 1) / Tw its * p) (its.mergeSort leP) (most - (most - 1) / Tw its * Tw its) ((most - 1) / Tw its * p)
theorem Wn_ok {p most : Int} {its : List (Int × Int)} (hp : 0 < p) (h1 : ∀ x ∈ its, 1 ≤ x.1 ∧ x.1 ≤ p) (h2 : ∀ x ∈ its, 1 ≤ x.2) (hne : 0 < Tw its) (hm : 1 ≤ most) :
    most ≤ We p its (Wn p most its) ∧ We p its (Wn p most its - 1) < most ∧ 1 ≤ Wn p most its := by
  have hperm := List.mergeSort_perm its leP
  have a1 := Int.mul_ediv_add_emod (most - 1) (Tw its)
  have a2 := Int.emod_nonneg (most - 1) (show Tw its ≠ 0 by omega)
  have a3 := Int.emod_lt_of_pos (most - 1) hne
  have a4 : 0 ≤ (most - 1) / Tw its := Int.ediv_nonneg (by omega) (by omega)
  rw [Int.mul_comm] at a1
  have sorted : List.Pairwise (fun x y : Int × Int => x.1 ≤ y.1) (its.mergeSort leP) := by
    have := List.pairwise_mergeSort (le := leP) (fun a b c h1 h2 => leP_trans h1 h2) (fun a b => by
      rcases leP_total a b with h | h
      · rw [h, Bool.true_or]
      · rw [h, Bool.or_true]) its
    exact this.imp fun h => by rw [leP_iff] at h; omega
  unfold Wn
  generalize (most - 1) / Tw its = t at *
  obtain ⟨x, hx, e1, e2, e3⟩ := runW_ok (t * p) (its.mergeSort leP) (most - t * Tw its) (t * p) sorted (fun x hx => by have := h2 x (hperm.mem_iff.mp hx); omega) (by omega) (by rw [Tw_perm hperm]; omega)
  obtain ⟨b1, b2⟩ := h1 x (hperm.mem_iff.mp hx)
  rw [Sl_perm hperm] at e2 e3
  rw [e1]
  have tp : 0 ≤ t * p := Int.mul_nonneg a4 (by omega)
  refine ⟨?_, ?_, by omega⟩
  · rw [We_in (by omega) b2 h1]; omega
  · have : t * p + x.1 - 1 = t * p + (x.1 - 1) := by omega
    rw [this, We_in (by omega) (by omega) h1]; omega
/-! loops -/
abbrev Stn := Int × Int × Int
abbrev s3 (x : Stn) : PyData := .tuple [.int x.1, .int x.2.1, .int x.2.2]
theorem e_tg3 {i j k : Nat} (x : Stn) (ρ : Evn) : gT 3 (gC (gN i) (gC (gN j) (gC (gN k) gE))) (s3 x) ρ = some (stE (stE (stE ρ i (.val (.int x.1))) j (.val (.int x.2.1))) k (.val (.int x.2.2))) := by simp (disch := omega) only [bind_ok, bind_bad, bind_exc, at_ok, at_exc, ofO_some, oS_some, nox_okk, g_v, g_s, go_v, go_s, ga_v, ga_o, ga_s, s_z, s_s, fz_o, fz_v, fz_s, e_mGet, e_mC, e_m2, e_m1, e_mT, e_mB, e_mAndB, e_mOrB, e_mNotB, e_mAnd, e_mOr, e_mIf, e_mChain, e_mNil, e_mCons, e_mSeq, e_mCall, e_mNo, e_mPart, e_mCut, e_mIs, e_mIs2, e_mL, e_mDsp, e_mRep, e_mBind, e_mIxO, e_mBor, e_mBorB, e_mItems, e_mWk, e_mRev, e_mYes, e_mLc, e_gN, e_gE, e_gC, e_gTt, e_gTl, e_sNx, e_sThen, e_sDrop, e_sRet, e_sSet, e_sIf, e_sFor, e_sAsg, e_sPar, e_sSetO, e_sSetL, e_ownAt, e_freeze, e_sApp, e_sSetIx, e_sAugIx, e_sAug, e_sPop, e_sPopTo, e_fnM, e_bo_rt, e_bo_nx, e_bo_exc, e_startE, e_wipe0, e_wipe1, d_add, d_addib, d_addl, d_addt, d_sub, d_mul, d_div, d_mod, d_pow, d_cmp, d_neg, d_not, d_iadd, d_iop, d_toB, d_toI, d_trB, d_trI, d_trN, d_trL, d_trT, d_lenL, d_lenT, d_intI, d_intB, d_abs, d_gcd, d_max2, d_min2, d_sumI, d_anyB, d_allB, d_maxL, d_minL, d_listL, d_listT, d_tupL, d_tupT, d_idxL, d_idxT, d_lstL, d_lstT, d_revL, d_itL, d_itT, d_rng1, d_rng2, d_enum1, d_zip2, d_rev1L, d_rev1T, d_cutL, d_cutT, d_rep, d_mTup, d_mLst, d_setD, d_scN, d_scB, d_scI, d_scS, d_isN, d_isNN, d_nN, d_nB, d_nI, d_nS, d_nL, d_nT, if_true, if_false, ite_true, ite_false, reduceIte, List.length_cons, List.length_nil, Nat.zero_add, Nat.reduceAdd, Nat.reduceSub, Nat.reduceEqDiff, List.map_cons, List.map_nil, List.cons_append, List.nil_append, List.replicate, Option.map_some, Option.bind_some, Option.some.injEq, Bool.not_true, Bool.not_false, ne_eq, Bool.false_eq_true, Int.reduceEq, Int.reduceLT, Int.reduceLE, Int.reduceNeg, Int.reduceAdd, Int.reduceSub, Int.reduceMul, Int.reduceToNat, Int.toNat_natCast, Nat.reduceLT, Nat.reduceLeDiff, not_false_eq_true, not_true_eq_false, decide_true, decide_false, List.length_map, List.map_append, fmod_pos, fdiv_pos, and_true, true_and, and_self, Bool.and_true, Bool.or_false, Bool.and_false, Bool.or_true, Bool.true_and, Bool.false_and, ty_li_none, ty_li_bool, ty_li_int, ty_li_str, ty_li_list, ty_li_tuple, ty_tu_none, ty_tu_bool, ty_tu_int, ty_tu_str, ty_tu_list, ty_tu_tuple, ty_bo_none, ty_bo_bool, ty_bo_int, ty_bo_str, ty_bo_list, ty_bo_tuple, ty_in_none, ty_in_bool, ty_in_int, ty_in_str, ty_in_list, ty_in_tuple, ty_st_none, ty_st_bool, ty_st_int, ty_st_str, ty_st_list, ty_st_tuple, eq_int, ne_int, eq_bl, ne_bl, eq_st, ne_st, eq_li, ne_li, at_0, at_1, at_2, at_3, at_4, at_5, in_li, notin_li, c_z, c_s, gx_v, gx_s, e_mIsX, e_sTry, tc_ok, tc_exc, cm_nil, cm_cons, ex_ok, dx_nil, dx_v, dx_o, dx_x, dx_n, at_exx, Int.cast_ofNat_Int, e_mLrg1, e_mLrg2, d_lrg]
def bd (gs : List Int) (q : Int) (w : Stn) : Int := if q ∈ gs then w.2.1 + w.2.2 else w.2.1
def fi (p q : Int) (w : Stn) : Int := (w.1 - q - 1) % p + 1
def its (p : Int) (gs : List Int) (q : Int) (ws : List Stn) : List (Int × Int) := ws.map fun w => (fi p q w, bd gs q w)
abbrev lo (p : Int) (ws : List Stn) (gs : List Int) : PyData := .tuple [.int p, .list (ws.map s3), li gs]
def okW (w : Stn) : Prop := 1 ≤ w.2.1 ∧ w.2.1 ≤ 2000 ∧ 0 ≤ w.2.2 ∧ w.2.2 ≤ 2000
theorem bd_ok {gs : List Int} {q : Int} {w : Stn} (h : okW w) : 1 ≤ bd gs q w ∧ bd gs q w ≤ 4000 := by
  obtain ⟨a, b, c, d⟩ := h
  unfold bd
  split <;> omega
theorem fi_ok {p q : Int} (w : Stn) (hp : 0 < p) : 1 ≤ fi p q w ∧ fi p q w ≤ p := by
  have h1 := Int.emod_nonneg (w.1 - q - 1) (show p ≠ 0 by omega)
  have h2 := Int.emod_lt_of_pos (w.1 - q - 1) hp
  unfold fi
  omega
theorem its_ok {p q : Int} {gs : List Int} {ws : List Stn} (hp : 0 < p) (h : ∀ w ∈ ws, okW w) : (∀ x ∈ its p gs q ws, 1 ≤ x.1 ∧ x.1 ≤ p) ∧ ∀ x ∈ its p gs q ws, 1 ≤ x.2 ∧ x.2 ≤ 4000 := by
  constructor
  · intro x hx
    obtain ⟨w, _, rfl⟩ := List.mem_map.mp hx
    exact fi_ok w hp
  · intro x hx
    obtain ⟨w, hw, rfl⟩ := List.mem_map.mp hx
    exact bd_ok (h w hw)
theorem bends_ok (p q : Int) (wl : PyData) (gs : List Int) (w : Stn) : m_bends_at [.tuple [.int p, wl, li gs], s3 w, .int q] = .ok (.int (bd gs q w)) := by
  unfold m_bends_at b_bends_at
  rw [fn_go (n := 3) rfl]
  change bodyOut (sThen _ _ [some (.val (.tuple [.int p, wl, li gs])), some (.val (s3 w)), some (.val (.int q)), none, none, none]) = _
  unfold bd
  by_cases h : q ∈ gs <;> simp (disch := omega) only [h, bind_ok, bind_bad, bind_exc, at_ok, at_exc, ofO_some, oS_some, nox_okk, g_v, g_s, go_v, go_s, ga_v, ga_o, ga_s, s_z, s_s, fz_o, fz_v, fz_s, e_mGet, e_mC, e_m2, e_m1, e_mT, e_mB, e_mAndB, e_mOrB, e_mNotB, e_mAnd, e_mOr, e_mIf, e_mChain, e_mNil, e_mCons, e_mSeq, e_mCall, e_mNo, e_mPart, e_mCut, e_mIs, e_mIs2, e_mL, e_mDsp, e_mRep, e_mBind, e_mIxO, e_mBor, e_mBorB, e_mItems, e_mWk, e_mRev, e_mYes, e_mLc, e_gN, e_gE, e_gC, e_gTt, e_gTl, e_sNx, e_sThen, e_sDrop, e_sRet, e_sSet, e_sIf, e_sFor, e_sAsg, e_sPar, e_sSetO, e_sSetL, e_ownAt, e_freeze, e_sApp, e_sSetIx, e_sAugIx, e_sAug, e_sPop, e_sPopTo, e_fnM, e_bo_rt, e_bo_nx, e_bo_exc, e_startE, e_wipe0, e_wipe1, d_add, d_addib, d_addl, d_addt, d_sub, d_mul, d_div, d_mod, d_pow, d_cmp, d_neg, d_not, d_iadd, d_iop, d_toB, d_toI, d_trB, d_trI, d_trN, d_trL, d_trT, d_lenL, d_lenT, d_intI, d_intB, d_abs, d_gcd, d_max2, d_min2, d_sumI, d_anyB, d_allB, d_maxL, d_minL, d_listL, d_listT, d_tupL, d_tupT, d_idxL, d_idxT, d_lstL, d_lstT, d_revL, d_itL, d_itT, d_rng1, d_rng2, d_enum1, d_zip2, d_rev1L, d_rev1T, d_cutL, d_cutT, d_rep, d_mTup, d_mLst, d_setD, d_scN, d_scB, d_scI, d_scS, d_isN, d_isNN, d_nN, d_nB, d_nI, d_nS, d_nL, d_nT, if_true, if_false, ite_true, ite_false, reduceIte, List.length_cons, List.length_nil, Nat.zero_add, Nat.reduceAdd, Nat.reduceSub, Nat.reduceEqDiff, List.map_cons, List.map_nil, List.cons_append, List.nil_append, List.replicate, Option.map_some, Option.bind_some, Option.some.injEq, Bool.not_true, Bool.not_false, ne_eq, Bool.false_eq_true, Int.reduceEq, Int.reduceLT, Int.reduceLE, Int.reduceNeg, Int.reduceAdd, Int.reduceSub, Int.reduceMul, Int.reduceToNat, Int.toNat_natCast, Nat.reduceLT, Nat.reduceLeDiff, not_false_eq_true, not_true_eq_false, decide_true, decide_false, List.length_map, List.map_append, fmod_pos, fdiv_pos, and_true, true_and, and_self, Bool.and_true, Bool.or_false, Bool.and_false, Bool.or_true, Bool.true_and, Bool.false_and, ty_li_none, ty_li_bool, ty_li_int, ty_li_str, ty_li_list, ty_li_tuple, ty_tu_none, ty_tu_bool, ty_tu_int, ty_tu_str, ty_tu_list, ty_tu_tuple, ty_bo_none, ty_bo_bool, ty_bo_int, ty_bo_str, ty_bo_list, ty_bo_tuple, ty_in_none, ty_in_bool, ty_in_int, ty_in_str, ty_in_list, ty_in_tuple, ty_st_none, ty_st_bool, ty_st_int, ty_st_str, ty_st_list, ty_st_tuple, eq_int, ne_int, eq_bl, ne_bl, eq_st, ne_st, eq_li, ne_li, at_0, at_1, at_2, at_3, at_4, at_5, in_li, notin_li, c_z, c_s, gx_v, gx_s, e_mIsX, e_sTry, tc_ok, tc_exc, cm_nil, cm_cons, ex_ok, dx_nil, dx_v, dx_o, dx_x, dx_n, at_exx, Int.cast_ofNat_Int, e_mLrg1, e_mLrg2, d_lrg]
theorem comings_eq {p q pl b : Int} (hp : 0 < p) : (q + b - pl) / p - (q - pl) / p = Cm p ((pl - q - 1) % p + 1) b := by
  have h0 := Int.mul_ediv_add_emod (pl - q - 1) p
  have h1 := Int.emod_nonneg (pl - q - 1) (show p ≠ 0 by omega)
  have h2 := Int.emod_lt_of_pos (pl - q - 1) hp
  unfold Cm
  generalize (pl - q - 1) / p = e at *
  generalize (pl - q - 1) % p = f at *
  have e1 : q + b - pl = (b - (f + 1)) + p * (-e) := by rw [Int.mul_neg]; omega
  have e2 : q - pl = (p - 1 - f) + p * (-e - 1) := by rw [Int.mul_sub, Int.mul_neg]; omega
  rw [e1, e2, Int.add_mul_ediv_left _ _ (by omega), Int.add_mul_ediv_left _ _ (by omega), Int.ediv_eq_zero_of_lt (show 0 ≤ p - 1 - f by omega) (by omega)]
  omega
theorem comings_ok {p q pl b : Int} (hp : 0 < p) (hp2 : p < 2 ^ 60) : m_comings [.int p, .int q, .int pl, .int b] = .ok (.int (Cm p ((pl - q - 1) % p + 1) b)) := by
  unfold m_comings b_comings
  rw [fn_go (n := 4) rfl]
  change bodyOut (sRet _ [some (.val (.int p)), some (.val (.int q)), some (.val (.int pl)), some (.val (.int b))]) = _
  have h : divOk p := divOk_s (by omega) (by omega)
  simp (disch := omega) only [h, bind_ok, bind_bad, bind_exc, at_ok, at_exc, ofO_some, oS_some, nox_okk, g_v, g_s, go_v, go_s, ga_v, ga_o, ga_s, s_z, s_s, fz_o, fz_v, fz_s, e_mGet, e_mC, e_m2, e_m1, e_mT, e_mB, e_mAndB, e_mOrB, e_mNotB, e_mAnd, e_mOr, e_mIf, e_mChain, e_mNil, e_mCons, e_mSeq, e_mCall, e_mNo, e_mPart, e_mCut, e_mIs, e_mIs2, e_mL, e_mDsp, e_mRep, e_mBind, e_mIxO, e_mBor, e_mBorB, e_mItems, e_mWk, e_mRev, e_mYes, e_mLc, e_gN, e_gE, e_gC, e_gTt, e_gTl, e_sNx, e_sThen, e_sDrop, e_sRet, e_sSet, e_sIf, e_sFor, e_sAsg, e_sPar, e_sSetO, e_sSetL, e_ownAt, e_freeze, e_sApp, e_sSetIx, e_sAugIx, e_sAug, e_sPop, e_sPopTo, e_fnM, e_bo_rt, e_bo_nx, e_bo_exc, e_startE, e_wipe0, e_wipe1, d_add, d_addib, d_addl, d_addt, d_sub, d_mul, d_div, d_mod, d_pow, d_cmp, d_neg, d_not, d_iadd, d_iop, d_toB, d_toI, d_trB, d_trI, d_trN, d_trL, d_trT, d_lenL, d_lenT, d_intI, d_intB, d_abs, d_gcd, d_max2, d_min2, d_sumI, d_anyB, d_allB, d_maxL, d_minL, d_listL, d_listT, d_tupL, d_tupT, d_idxL, d_idxT, d_lstL, d_lstT, d_revL, d_itL, d_itT, d_rng1, d_rng2, d_enum1, d_zip2, d_rev1L, d_rev1T, d_cutL, d_cutT, d_rep, d_mTup, d_mLst, d_setD, d_scN, d_scB, d_scI, d_scS, d_isN, d_isNN, d_nN, d_nB, d_nI, d_nS, d_nL, d_nT, if_true, if_false, ite_true, ite_false, reduceIte, List.length_cons, List.length_nil, Nat.zero_add, Nat.reduceAdd, Nat.reduceSub, Nat.reduceEqDiff, List.map_cons, List.map_nil, List.cons_append, List.nil_append, List.replicate, Option.map_some, Option.bind_some, Option.some.injEq, Bool.not_true, Bool.not_false, ne_eq, Bool.false_eq_true, Int.reduceEq, Int.reduceLT, Int.reduceLE, Int.reduceNeg, Int.reduceAdd, Int.reduceSub, Int.reduceMul, Int.reduceToNat, Int.toNat_natCast, Nat.reduceLT, Nat.reduceLeDiff, not_false_eq_true, not_true_eq_false, decide_true, decide_false, List.length_map, List.map_append, fmod_pos, fdiv_pos, and_true, true_and, and_self, Bool.and_true, Bool.or_false, Bool.and_false, Bool.or_true, Bool.true_and, Bool.false_and, ty_li_none, ty_li_bool, ty_li_int, ty_li_str, ty_li_list, ty_li_tuple, ty_tu_none, ty_tu_bool, ty_tu_int, ty_tu_str, ty_tu_list, ty_tu_tuple, ty_bo_none, ty_bo_bool, ty_bo_int, ty_bo_str, ty_bo_list, ty_bo_tuple, ty_in_none, ty_in_bool, ty_in_int, ty_in_str, ty_in_list, ty_in_tuple, ty_st_none, ty_st_bool, ty_st_int, ty_st_str, ty_st_list, ty_st_tuple, eq_int, ne_int, eq_bl, ne_bl, eq_st, ne_st, eq_li, ne_li, at_0, at_1, at_2, at_3, at_4, at_5, in_li, notin_li, c_z, c_s, gx_v, gx_s, e_mIsX, e_sTry, tc_ok, tc_exc, cm_nil, cm_cons, ex_ok, dx_nil, dx_v, dx_o, dx_x, dx_n, at_exx, Int.cast_ofNat_Int, e_mLrg1, e_mLrg2, d_lrg]
  rw [comings_eq hp]
section
variable {p : Int} {ws : List Stn} {gs : List Int} (hp : 0 < p) (hp2 : p < 2 ^ 40) (hl : ws.length ≤ 100) (hw : ∀ w ∈ ws, okW w)
include hp hp2 hl hw
theorem wear_ok (q b : Int) : m_wear [lo p ws gs, .int q, .int b] = .ok (.int (We p (its p gs q ws) b)) := by
  have h1 : ws.length ≤ sizeLine := by rw [line_eq]; omega
  unfold m_wear b_wear
  rw [fn_go (n := 3) rfl]
  change bodyOut (sThen _ _ [some (.val (lo p ws gs)), some (.val (.int q)), some (.val (.int b)), none, none, none, none, none]) = _
  simp (disch := omega) only [h1, bind_ok, bind_bad, bind_exc, at_ok, at_exc, ofO_some, oS_some, nox_okk, g_v, g_s, go_v, go_s, ga_v, ga_o, ga_s, s_z, s_s, fz_o, fz_v, fz_s, e_mGet, e_mC, e_m2, e_m1, e_mT, e_mB, e_mAndB, e_mOrB, e_mNotB, e_mAnd, e_mOr, e_mIf, e_mChain, e_mNil, e_mCons, e_mSeq, e_mCall, e_mNo, e_mPart, e_mCut, e_mIs, e_mIs2, e_mL, e_mDsp, e_mRep, e_mBind, e_mIxO, e_mBor, e_mBorB, e_mItems, e_mWk, e_mRev, e_mYes, e_mLc, e_gN, e_gE, e_gC, e_gTt, e_gTl, e_sNx, e_sThen, e_sDrop, e_sRet, e_sSet, e_sIf, e_sFor, e_sAsg, e_sPar, e_sSetO, e_sSetL, e_ownAt, e_freeze, e_sApp, e_sSetIx, e_sAugIx, e_sAug, e_sPop, e_sPopTo, e_fnM, e_bo_rt, e_bo_nx, e_bo_exc, e_startE, e_wipe0, e_wipe1, d_add, d_addib, d_addl, d_addt, d_sub, d_mul, d_div, d_mod, d_pow, d_cmp, d_neg, d_not, d_iadd, d_iop, d_toB, d_toI, d_trB, d_trI, d_trN, d_trL, d_trT, d_lenL, d_lenT, d_intI, d_intB, d_abs, d_gcd, d_max2, d_min2, d_sumI, d_anyB, d_allB, d_maxL, d_minL, d_listL, d_listT, d_tupL, d_tupT, d_idxL, d_idxT, d_lstL, d_lstT, d_revL, d_itL, d_itT, d_rng1, d_rng2, d_enum1, d_zip2, d_rev1L, d_rev1T, d_cutL, d_cutT, d_rep, d_mTup, d_mLst, d_setD, d_scN, d_scB, d_scI, d_scS, d_isN, d_isNN, d_nN, d_nB, d_nI, d_nS, d_nL, d_nT, if_true, if_false, ite_true, ite_false, reduceIte, List.length_cons, List.length_nil, Nat.zero_add, Nat.reduceAdd, Nat.reduceSub, Nat.reduceEqDiff, List.map_cons, List.map_nil, List.cons_append, List.nil_append, List.replicate, Option.map_some, Option.bind_some, Option.some.injEq, Bool.not_true, Bool.not_false, ne_eq, Bool.false_eq_true, Int.reduceEq, Int.reduceLT, Int.reduceLE, Int.reduceNeg, Int.reduceAdd, Int.reduceSub, Int.reduceMul, Int.reduceToNat, Int.toNat_natCast, Nat.reduceLT, Nat.reduceLeDiff, not_false_eq_true, not_true_eq_false, decide_true, decide_false, List.length_map, List.map_append, fmod_pos, fdiv_pos, and_true, true_and, and_self, Bool.and_true, Bool.or_false, Bool.and_false, Bool.or_true, Bool.true_and, Bool.false_and, ty_li_none, ty_li_bool, ty_li_int, ty_li_str, ty_li_list, ty_li_tuple, ty_tu_none, ty_tu_bool, ty_tu_int, ty_tu_str, ty_tu_list, ty_tu_tuple, ty_bo_none, ty_bo_bool, ty_bo_int, ty_bo_str, ty_bo_list, ty_bo_tuple, ty_in_none, ty_in_bool, ty_in_int, ty_in_str, ty_in_list, ty_in_tuple, ty_st_none, ty_st_bool, ty_st_int, ty_st_str, ty_st_list, ty_st_tuple, eq_int, ne_int, eq_bl, ne_bl, eq_st, ne_st, eq_li, ne_li, at_0, at_1, at_2, at_3, at_4, at_5, in_li, notin_li, c_z, c_s, gx_v, gx_s, e_mIsX, e_sTry, tc_ok, tc_exc, cm_nil, cm_cons, ex_ok, dx_nil, dx_v, dx_o, dx_x, dx_n, at_exx, Int.cast_ofNat_Int, e_mLrg1, e_mLrg2, d_lrg]
  rw [lcM_all (dec := s3) (fun w => .int (bd gs q w * Cm p (fi p q w) b)) (fun w hm => ⟨_, e_gN _ _ _, by
    obtain ⟨a, c⟩ := bd_ok (gs := gs) (q := q) (hw w hm)
    have m1 : mulOk (bd gs q w) (Cm p (fi p q w) b) := mulOk_l (by omega) (by omega)
    unfold fi at m1
    simp (disch := omega) only [bends_ok, comings_ok (p := p) hp (by omega), m1, bind_ok, bind_bad, bind_exc, at_ok, at_exc, ofO_some, oS_some, nox_okk, g_v, g_s, go_v, go_s, ga_v, ga_o, ga_s, s_z, s_s, fz_o, fz_v, fz_s, e_mGet, e_mC, e_m2, e_m1, e_mT, e_mB, e_mAndB, e_mOrB, e_mNotB, e_mAnd, e_mOr, e_mIf, e_mChain, e_mNil, e_mCons, e_mSeq, e_mCall, e_mNo, e_mPart, e_mCut, e_mIs, e_mIs2, e_mL, e_mDsp, e_mRep, e_mBind, e_mIxO, e_mBor, e_mBorB, e_mItems, e_mWk, e_mRev, e_mYes, e_mLc, e_gN, e_gE, e_gC, e_gTt, e_gTl, e_sNx, e_sThen, e_sDrop, e_sRet, e_sSet, e_sIf, e_sFor, e_sAsg, e_sPar, e_sSetO, e_sSetL, e_ownAt, e_freeze, e_sApp, e_sSetIx, e_sAugIx, e_sAug, e_sPop, e_sPopTo, e_fnM, e_bo_rt, e_bo_nx, e_bo_exc, e_startE, e_wipe0, e_wipe1, d_add, d_addib, d_addl, d_addt, d_sub, d_mul, d_div, d_mod, d_pow, d_cmp, d_neg, d_not, d_iadd, d_iop, d_toB, d_toI, d_trB, d_trI, d_trN, d_trL, d_trT, d_lenL, d_lenT, d_intI, d_intB, d_abs, d_gcd, d_max2, d_min2, d_sumI, d_anyB, d_allB, d_maxL, d_minL, d_listL, d_listT, d_tupL, d_tupT, d_idxL, d_idxT, d_lstL, d_lstT, d_revL, d_itL, d_itT, d_rng1, d_rng2, d_enum1, d_zip2, d_rev1L, d_rev1T, d_cutL, d_cutT, d_rep, d_mTup, d_mLst, d_setD, d_scN, d_scB, d_scI, d_scS, d_isN, d_isNN, d_nN, d_nB, d_nI, d_nS, d_nL, d_nT, if_true, if_false, ite_true, ite_false, reduceIte, List.length_cons, List.length_nil, Nat.zero_add, Nat.reduceAdd, Nat.reduceSub, Nat.reduceEqDiff, List.map_cons, List.map_nil, List.cons_append, List.nil_append, List.replicate, Option.map_some, Option.bind_some, Option.some.injEq, Bool.not_true, Bool.not_false, ne_eq, Bool.false_eq_true, Int.reduceEq, Int.reduceLT, Int.reduceLE, Int.reduceNeg, Int.reduceAdd, Int.reduceSub, Int.reduceMul, Int.reduceToNat, Int.toNat_natCast, Nat.reduceLT, Nat.reduceLeDiff, not_false_eq_true, not_true_eq_false, decide_true, decide_false, List.length_map, List.map_append, fmod_pos, fdiv_pos, and_true, true_and, and_self, Bool.and_true, Bool.or_false, Bool.and_false, Bool.or_true, Bool.true_and, Bool.false_and, ty_li_none, ty_li_bool, ty_li_int, ty_li_str, ty_li_list, ty_li_tuple, ty_tu_none, ty_tu_bool, ty_tu_int, ty_tu_str, ty_tu_list, ty_tu_tuple, ty_bo_none, ty_bo_bool, ty_bo_int, ty_bo_str, ty_bo_list, ty_bo_tuple, ty_in_none, ty_in_bool, ty_in_int, ty_in_str, ty_in_list, ty_in_tuple, ty_st_none, ty_st_bool, ty_st_int, ty_st_str, ty_st_list, ty_st_tuple, eq_int, ne_int, eq_bl, ne_bl, eq_st, ne_st, eq_li, ne_li, at_0, at_1, at_2, at_3, at_4, at_5, in_li, notin_li, c_z, c_s, gx_v, gx_s, e_mIsX, e_sTry, tc_ok, tc_exc, cm_nil, cm_cons, ex_ok, dx_nil, dx_v, dx_o, dx_x, dx_n, at_exx, Int.cast_ofNat_Int, e_mLrg1, e_mLrg2, d_lrg]
    rfl⟩)]
  have e : ws.map (fun w => PyData.int (bd gs q w * Cm p (fi p q w) b)) = (ws.map fun w => bd gs q w * Cm p (fi p q w) b).map .int := by rw [List.map_map]; rfl
  rw [e]
  simp (disch := omega) only [bind_ok, bind_bad, bind_exc, at_ok, at_exc, ofO_some, oS_some, nox_okk, g_v, g_s, go_v, go_s, ga_v, ga_o, ga_s, s_z, s_s, fz_o, fz_v, fz_s, e_mGet, e_mC, e_m2, e_m1, e_mT, e_mB, e_mAndB, e_mOrB, e_mNotB, e_mAnd, e_mOr, e_mIf, e_mChain, e_mNil, e_mCons, e_mSeq, e_mCall, e_mNo, e_mPart, e_mCut, e_mIs, e_mIs2, e_mL, e_mDsp, e_mRep, e_mBind, e_mIxO, e_mBor, e_mBorB, e_mItems, e_mWk, e_mRev, e_mYes, e_mLc, e_gN, e_gE, e_gC, e_gTt, e_gTl, e_sNx, e_sThen, e_sDrop, e_sRet, e_sSet, e_sIf, e_sFor, e_sAsg, e_sPar, e_sSetO, e_sSetL, e_ownAt, e_freeze, e_sApp, e_sSetIx, e_sAugIx, e_sAug, e_sPop, e_sPopTo, e_fnM, e_bo_rt, e_bo_nx, e_bo_exc, e_startE, e_wipe0, e_wipe1, d_add, d_addib, d_addl, d_addt, d_sub, d_mul, d_div, d_mod, d_pow, d_cmp, d_neg, d_not, d_iadd, d_iop, d_toB, d_toI, d_trB, d_trI, d_trN, d_trL, d_trT, d_lenL, d_lenT, d_intI, d_intB, d_abs, d_gcd, d_max2, d_min2, d_sumI, d_anyB, d_allB, d_maxL, d_minL, d_listL, d_listT, d_tupL, d_tupT, d_idxL, d_idxT, d_lstL, d_lstT, d_revL, d_itL, d_itT, d_rng1, d_rng2, d_enum1, d_zip2, d_rev1L, d_rev1T, d_cutL, d_cutT, d_rep, d_mTup, d_mLst, d_setD, d_scN, d_scB, d_scI, d_scS, d_isN, d_isNN, d_nN, d_nB, d_nI, d_nS, d_nL, d_nT, if_true, if_false, ite_true, ite_false, reduceIte, List.length_cons, List.length_nil, Nat.zero_add, Nat.reduceAdd, Nat.reduceSub, Nat.reduceEqDiff, List.map_cons, List.map_nil, List.cons_append, List.nil_append, List.replicate, Option.map_some, Option.bind_some, Option.some.injEq, Bool.not_true, Bool.not_false, ne_eq, Bool.false_eq_true, Int.reduceEq, Int.reduceLT, Int.reduceLE, Int.reduceNeg, Int.reduceAdd, Int.reduceSub, Int.reduceMul, Int.reduceToNat, Int.toNat_natCast, Nat.reduceLT, Nat.reduceLeDiff, not_false_eq_true, not_true_eq_false, decide_true, decide_false, List.length_map, List.map_append, fmod_pos, fdiv_pos, and_true, true_and, and_self, Bool.and_true, Bool.or_false, Bool.and_false, Bool.or_true, Bool.true_and, Bool.false_and, ty_li_none, ty_li_bool, ty_li_int, ty_li_str, ty_li_list, ty_li_tuple, ty_tu_none, ty_tu_bool, ty_tu_int, ty_tu_str, ty_tu_list, ty_tu_tuple, ty_bo_none, ty_bo_bool, ty_bo_int, ty_bo_str, ty_bo_list, ty_bo_tuple, ty_in_none, ty_in_bool, ty_in_int, ty_in_str, ty_in_list, ty_in_tuple, ty_st_none, ty_st_bool, ty_st_int, ty_st_str, ty_st_list, ty_st_tuple, eq_int, ne_int, eq_bl, ne_bl, eq_st, ne_st, eq_li, ne_li, at_0, at_1, at_2, at_3, at_4, at_5, in_li, notin_li, c_z, c_s, gx_v, gx_s, e_mIsX, e_sTry, tc_ok, tc_exc, cm_nil, cm_cons, ex_ok, dx_nil, dx_v, dx_o, dx_x, dx_n, at_exx, Int.cast_ofNat_Int, e_mLrg1, e_mLrg2, d_lrg]
  unfold We its
  rw [List.map_map]
  rfl
theorem turn_wear_ok (q : Int) : m_turn_wear [lo p ws gs, .int q] = .ok (.int (Tw (its p gs q ws))) := by
  have h1 : ws.length ≤ sizeLine := by rw [line_eq]; omega
  unfold m_turn_wear b_turn_wear
  rw [fn_go (n := 2) rfl]
  change bodyOut (sRet _ [some (.val (lo p ws gs)), some (.val (.int q)), none]) = _
  simp (disch := omega) only [h1, bind_ok, bind_bad, bind_exc, at_ok, at_exc, ofO_some, oS_some, nox_okk, g_v, g_s, go_v, go_s, ga_v, ga_o, ga_s, s_z, s_s, fz_o, fz_v, fz_s, e_mGet, e_mC, e_m2, e_m1, e_mT, e_mB, e_mAndB, e_mOrB, e_mNotB, e_mAnd, e_mOr, e_mIf, e_mChain, e_mNil, e_mCons, e_mSeq, e_mCall, e_mNo, e_mPart, e_mCut, e_mIs, e_mIs2, e_mL, e_mDsp, e_mRep, e_mBind, e_mIxO, e_mBor, e_mBorB, e_mItems, e_mWk, e_mRev, e_mYes, e_mLc, e_gN, e_gE, e_gC, e_gTt, e_gTl, e_sNx, e_sThen, e_sDrop, e_sRet, e_sSet, e_sIf, e_sFor, e_sAsg, e_sPar, e_sSetO, e_sSetL, e_ownAt, e_freeze, e_sApp, e_sSetIx, e_sAugIx, e_sAug, e_sPop, e_sPopTo, e_fnM, e_bo_rt, e_bo_nx, e_bo_exc, e_startE, e_wipe0, e_wipe1, d_add, d_addib, d_addl, d_addt, d_sub, d_mul, d_div, d_mod, d_pow, d_cmp, d_neg, d_not, d_iadd, d_iop, d_toB, d_toI, d_trB, d_trI, d_trN, d_trL, d_trT, d_lenL, d_lenT, d_intI, d_intB, d_abs, d_gcd, d_max2, d_min2, d_sumI, d_anyB, d_allB, d_maxL, d_minL, d_listL, d_listT, d_tupL, d_tupT, d_idxL, d_idxT, d_lstL, d_lstT, d_revL, d_itL, d_itT, d_rng1, d_rng2, d_enum1, d_zip2, d_rev1L, d_rev1T, d_cutL, d_cutT, d_rep, d_mTup, d_mLst, d_setD, d_scN, d_scB, d_scI, d_scS, d_isN, d_isNN, d_nN, d_nB, d_nI, d_nS, d_nL, d_nT, if_true, if_false, ite_true, ite_false, reduceIte, List.length_cons, List.length_nil, Nat.zero_add, Nat.reduceAdd, Nat.reduceSub, Nat.reduceEqDiff, List.map_cons, List.map_nil, List.cons_append, List.nil_append, List.replicate, Option.map_some, Option.bind_some, Option.some.injEq, Bool.not_true, Bool.not_false, ne_eq, Bool.false_eq_true, Int.reduceEq, Int.reduceLT, Int.reduceLE, Int.reduceNeg, Int.reduceAdd, Int.reduceSub, Int.reduceMul, Int.reduceToNat, Int.toNat_natCast, Nat.reduceLT, Nat.reduceLeDiff, not_false_eq_true, not_true_eq_false, decide_true, decide_false, List.length_map, List.map_append, fmod_pos, fdiv_pos, and_true, true_and, and_self, Bool.and_true, Bool.or_false, Bool.and_false, Bool.or_true, Bool.true_and, Bool.false_and, ty_li_none, ty_li_bool, ty_li_int, ty_li_str, ty_li_list, ty_li_tuple, ty_tu_none, ty_tu_bool, ty_tu_int, ty_tu_str, ty_tu_list, ty_tu_tuple, ty_bo_none, ty_bo_bool, ty_bo_int, ty_bo_str, ty_bo_list, ty_bo_tuple, ty_in_none, ty_in_bool, ty_in_int, ty_in_str, ty_in_list, ty_in_tuple, ty_st_none, ty_st_bool, ty_st_int, ty_st_str, ty_st_list, ty_st_tuple, eq_int, ne_int, eq_bl, ne_bl, eq_st, ne_st, eq_li, ne_li, at_0, at_1, at_2, at_3, at_4, at_5, in_li, notin_li, c_z, c_s, gx_v, gx_s, e_mIsX, e_sTry, tc_ok, tc_exc, cm_nil, cm_cons, ex_ok, dx_nil, dx_v, dx_o, dx_x, dx_n, at_exx, Int.cast_ofNat_Int, e_mLrg1, e_mLrg2, d_lrg]
  rw [lcM_all (dec := s3) (fun w => .int (bd gs q w)) (fun w hm => ⟨_, e_gN _ _ _, by simp (disch := omega) only [bends_ok, bind_ok, bind_bad, bind_exc, at_ok, at_exc, ofO_some, oS_some, nox_okk, g_v, g_s, go_v, go_s, ga_v, ga_o, ga_s, s_z, s_s, fz_o, fz_v, fz_s, e_mGet, e_mC, e_m2, e_m1, e_mT, e_mB, e_mAndB, e_mOrB, e_mNotB, e_mAnd, e_mOr, e_mIf, e_mChain, e_mNil, e_mCons, e_mSeq, e_mCall, e_mNo, e_mPart, e_mCut, e_mIs, e_mIs2, e_mL, e_mDsp, e_mRep, e_mBind, e_mIxO, e_mBor, e_mBorB, e_mItems, e_mWk, e_mRev, e_mYes, e_mLc, e_gN, e_gE, e_gC, e_gTt, e_gTl, e_sNx, e_sThen, e_sDrop, e_sRet, e_sSet, e_sIf, e_sFor, e_sAsg, e_sPar, e_sSetO, e_sSetL, e_ownAt, e_freeze, e_sApp, e_sSetIx, e_sAugIx, e_sAug, e_sPop, e_sPopTo, e_fnM, e_bo_rt, e_bo_nx, e_bo_exc, e_startE, e_wipe0, e_wipe1, d_add, d_addib, d_addl, d_addt, d_sub, d_mul, d_div, d_mod, d_pow, d_cmp, d_neg, d_not, d_iadd, d_iop, d_toB, d_toI, d_trB, d_trI, d_trN, d_trL, d_trT, d_lenL, d_lenT, d_intI, d_intB, d_abs, d_gcd, d_max2, d_min2, d_sumI, d_anyB, d_allB, d_maxL, d_minL, d_listL, d_listT, d_tupL, d_tupT, d_idxL, d_idxT, d_lstL, d_lstT, d_revL, d_itL, d_itT, d_rng1, d_rng2, d_enum1, d_zip2, d_rev1L, d_rev1T, d_cutL, d_cutT, d_rep, d_mTup, d_mLst, d_setD, d_scN, d_scB, d_scI, d_scS, d_isN, d_isNN, d_nN, d_nB, d_nI, d_nS, d_nL, d_nT, if_true, if_false, ite_true, ite_false, reduceIte, List.length_cons, List.length_nil, Nat.zero_add, Nat.reduceAdd, Nat.reduceSub, Nat.reduceEqDiff, List.map_cons, List.map_nil, List.cons_append, List.nil_append, List.replicate, Option.map_some, Option.bind_some, Option.some.injEq, Bool.not_true, Bool.not_false, ne_eq, Bool.false_eq_true, Int.reduceEq, Int.reduceLT, Int.reduceLE, Int.reduceNeg, Int.reduceAdd, Int.reduceSub, Int.reduceMul, Int.reduceToNat, Int.toNat_natCast, Nat.reduceLT, Nat.reduceLeDiff, not_false_eq_true, not_true_eq_false, decide_true, decide_false, List.length_map, List.map_append, fmod_pos, fdiv_pos, and_true, true_and, and_self, Bool.and_true, Bool.or_false, Bool.and_false, Bool.or_true, Bool.true_and, Bool.false_and, ty_li_none, ty_li_bool, ty_li_int, ty_li_str, ty_li_list, ty_li_tuple, ty_tu_none, ty_tu_bool, ty_tu_int, ty_tu_str, ty_tu_list, ty_tu_tuple, ty_bo_none, ty_bo_bool, ty_bo_int, ty_bo_str, ty_bo_list, ty_bo_tuple, ty_in_none, ty_in_bool, ty_in_int, ty_in_str, ty_in_list, ty_in_tuple, ty_st_none, ty_st_bool, ty_st_int, ty_st_str, ty_st_list, ty_st_tuple, eq_int, ne_int, eq_bl, ne_bl, eq_st, ne_st, eq_li, ne_li, at_0, at_1, at_2, at_3, at_4, at_5, in_li, notin_li, c_z, c_s, gx_v, gx_s, e_mIsX, e_sTry, tc_ok, tc_exc, cm_nil, cm_cons, ex_ok, dx_nil, dx_v, dx_o, dx_x, dx_n, at_exx, Int.cast_ofNat_Int, e_mLrg1, e_mLrg2, d_lrg]⟩)]
  have e : ws.map (fun w => PyData.int (bd gs q w)) = (ws.map fun w => bd gs q w).map .int := by rw [List.map_map]; rfl
  rw [e]
  simp (disch := omega) only [bind_ok, bind_bad, bind_exc, at_ok, at_exc, ofO_some, oS_some, nox_okk, g_v, g_s, go_v, go_s, ga_v, ga_o, ga_s, s_z, s_s, fz_o, fz_v, fz_s, e_mGet, e_mC, e_m2, e_m1, e_mT, e_mB, e_mAndB, e_mOrB, e_mNotB, e_mAnd, e_mOr, e_mIf, e_mChain, e_mNil, e_mCons, e_mSeq, e_mCall, e_mNo, e_mPart, e_mCut, e_mIs, e_mIs2, e_mL, e_mDsp, e_mRep, e_mBind, e_mIxO, e_mBor, e_mBorB, e_mItems, e_mWk, e_mRev, e_mYes, e_mLc, e_gN, e_gE, e_gC, e_gTt, e_gTl, e_sNx, e_sThen, e_sDrop, e_sRet, e_sSet, e_sIf, e_sFor, e_sAsg, e_sPar, e_sSetO, e_sSetL, e_ownAt, e_freeze, e_sApp, e_sSetIx, e_sAugIx, e_sAug, e_sPop, e_sPopTo, e_fnM, e_bo_rt, e_bo_nx, e_bo_exc, e_startE, e_wipe0, e_wipe1, d_add, d_addib, d_addl, d_addt, d_sub, d_mul, d_div, d_mod, d_pow, d_cmp, d_neg, d_not, d_iadd, d_iop, d_toB, d_toI, d_trB, d_trI, d_trN, d_trL, d_trT, d_lenL, d_lenT, d_intI, d_intB, d_abs, d_gcd, d_max2, d_min2, d_sumI, d_anyB, d_allB, d_maxL, d_minL, d_listL, d_listT, d_tupL, d_tupT, d_idxL, d_idxT, d_lstL, d_lstT, d_revL, d_itL, d_itT, d_rng1, d_rng2, d_enum1, d_zip2, d_rev1L, d_rev1T, d_cutL, d_cutT, d_rep, d_mTup, d_mLst, d_setD, d_scN, d_scB, d_scI, d_scS, d_isN, d_isNN, d_nN, d_nB, d_nI, d_nS, d_nL, d_nT, if_true, if_false, ite_true, ite_false, reduceIte, List.length_cons, List.length_nil, Nat.zero_add, Nat.reduceAdd, Nat.reduceSub, Nat.reduceEqDiff, List.map_cons, List.map_nil, List.cons_append, List.nil_append, List.replicate, Option.map_some, Option.bind_some, Option.some.injEq, Bool.not_true, Bool.not_false, ne_eq, Bool.false_eq_true, Int.reduceEq, Int.reduceLT, Int.reduceLE, Int.reduceNeg, Int.reduceAdd, Int.reduceSub, Int.reduceMul, Int.reduceToNat, Int.toNat_natCast, Nat.reduceLT, Nat.reduceLeDiff, not_false_eq_true, not_true_eq_false, decide_true, decide_false, List.length_map, List.map_append, fmod_pos, fdiv_pos, and_true, true_and, and_self, Bool.and_true, Bool.or_false, Bool.and_false, Bool.or_true, Bool.true_and, Bool.false_and, ty_li_none, ty_li_bool, ty_li_int, ty_li_str, ty_li_list, ty_li_tuple, ty_tu_none, ty_tu_bool, ty_tu_int, ty_tu_str, ty_tu_list, ty_tu_tuple, ty_bo_none, ty_bo_bool, ty_bo_int, ty_bo_str, ty_bo_list, ty_bo_tuple, ty_in_none, ty_in_bool, ty_in_int, ty_in_str, ty_in_list, ty_in_tuple, ty_st_none, ty_st_bool, ty_st_int, ty_st_str, ty_st_list, ty_st_tuple, eq_int, ne_int, eq_bl, ne_bl, eq_st, ne_st, eq_li, ne_li, at_0, at_1, at_2, at_3, at_4, at_5, in_li, notin_li, c_z, c_s, gx_v, gx_s, e_mIsX, e_sTry, tc_ok, tc_exc, cm_nil, cm_cons, ex_ok, dx_nil, dx_v, dx_o, dx_x, dx_n, at_exx, Int.cast_ofNat_Int, e_mLrg1, e_mLrg2, d_lrg]
  unfold Tw its
  rw [List.map_map]
  rfl
theorem turn_bends_ok (q : Int) : m_turn_bends [lo p ws gs, .int q] = .ok (.list (((its p gs q ws).mergeSort leP).map pr)) := by
  have h1 : ws.length ≤ sizeLine := by rw [line_eq]; omega
  have h2s : 2 ≤ sizeLine := by rw [line_eq]; omega
  have p0 : p ≠ 0 := by omega
  unfold m_turn_bends b_turn_bends
  rw [fn_go (n := 2) rfl]
  change bodyOut (sThen _ _ [some (.val (lo p ws gs)), some (.val (.int q)), none, none, none, none]) = _
  simp (disch := omega) only [h1, bind_ok, bind_bad, bind_exc, at_ok, at_exc, ofO_some, oS_some, nox_okk, g_v, g_s, go_v, go_s, ga_v, ga_o, ga_s, s_z, s_s, fz_o, fz_v, fz_s, e_mGet, e_mC, e_m2, e_m1, e_mT, e_mB, e_mAndB, e_mOrB, e_mNotB, e_mAnd, e_mOr, e_mIf, e_mChain, e_mNil, e_mCons, e_mSeq, e_mCall, e_mNo, e_mPart, e_mCut, e_mIs, e_mIs2, e_mL, e_mDsp, e_mRep, e_mBind, e_mIxO, e_mBor, e_mBorB, e_mItems, e_mWk, e_mRev, e_mYes, e_mLc, e_gN, e_gE, e_gC, e_gTt, e_gTl, e_sNx, e_sThen, e_sDrop, e_sRet, e_sSet, e_sIf, e_sFor, e_sAsg, e_sPar, e_sSetO, e_sSetL, e_ownAt, e_freeze, e_sApp, e_sSetIx, e_sAugIx, e_sAug, e_sPop, e_sPopTo, e_fnM, e_bo_rt, e_bo_nx, e_bo_exc, e_startE, e_wipe0, e_wipe1, d_add, d_addib, d_addl, d_addt, d_sub, d_mul, d_div, d_mod, d_pow, d_cmp, d_neg, d_not, d_iadd, d_iop, d_toB, d_toI, d_trB, d_trI, d_trN, d_trL, d_trT, d_lenL, d_lenT, d_intI, d_intB, d_abs, d_gcd, d_max2, d_min2, d_sumI, d_anyB, d_allB, d_maxL, d_minL, d_listL, d_listT, d_tupL, d_tupT, d_idxL, d_idxT, d_lstL, d_lstT, d_revL, d_itL, d_itT, d_rng1, d_rng2, d_enum1, d_zip2, d_rev1L, d_rev1T, d_cutL, d_cutT, d_rep, d_mTup, d_mLst, d_setD, d_scN, d_scB, d_scI, d_scS, d_isN, d_isNN, d_nN, d_nB, d_nI, d_nS, d_nL, d_nT, if_true, if_false, ite_true, ite_false, reduceIte, List.length_cons, List.length_nil, Nat.zero_add, Nat.reduceAdd, Nat.reduceSub, Nat.reduceEqDiff, List.map_cons, List.map_nil, List.cons_append, List.nil_append, List.replicate, Option.map_some, Option.bind_some, Option.some.injEq, Bool.not_true, Bool.not_false, ne_eq, Bool.false_eq_true, Int.reduceEq, Int.reduceLT, Int.reduceLE, Int.reduceNeg, Int.reduceAdd, Int.reduceSub, Int.reduceMul, Int.reduceToNat, Int.toNat_natCast, Nat.reduceLT, Nat.reduceLeDiff, not_false_eq_true, not_true_eq_false, decide_true, decide_false, List.length_map, List.map_append, fmod_pos, fdiv_pos, and_true, true_and, and_self, Bool.and_true, Bool.or_false, Bool.and_false, Bool.or_true, Bool.true_and, Bool.false_and, ty_li_none, ty_li_bool, ty_li_int, ty_li_str, ty_li_list, ty_li_tuple, ty_tu_none, ty_tu_bool, ty_tu_int, ty_tu_str, ty_tu_list, ty_tu_tuple, ty_bo_none, ty_bo_bool, ty_bo_int, ty_bo_str, ty_bo_list, ty_bo_tuple, ty_in_none, ty_in_bool, ty_in_int, ty_in_str, ty_in_list, ty_in_tuple, ty_st_none, ty_st_bool, ty_st_int, ty_st_str, ty_st_list, ty_st_tuple, eq_int, ne_int, eq_bl, ne_bl, eq_st, ne_st, eq_li, ne_li, at_0, at_1, at_2, at_3, at_4, at_5, in_li, notin_li, c_z, c_s, gx_v, gx_s, e_mIsX, e_sTry, tc_ok, tc_exc, cm_nil, cm_cons, ex_ok, dx_nil, dx_v, dx_o, dx_x, dx_n, at_exx, Int.cast_ofNat_Int, e_mLrg1, e_mLrg2, d_lrg]
  rw [lcM_all (dec := s3) (fun w => pr (fi p q w, bd gs q w)) (fun w hm => ⟨_, e_gN _ _ _, by
    simp (disch := omega) only [bends_ok, p0, h2s, bind_ok, bind_bad, bind_exc, at_ok, at_exc, ofO_some, oS_some, nox_okk, g_v, g_s, go_v, go_s, ga_v, ga_o, ga_s, s_z, s_s, fz_o, fz_v, fz_s, e_mGet, e_mC, e_m2, e_m1, e_mT, e_mB, e_mAndB, e_mOrB, e_mNotB, e_mAnd, e_mOr, e_mIf, e_mChain, e_mNil, e_mCons, e_mSeq, e_mCall, e_mNo, e_mPart, e_mCut, e_mIs, e_mIs2, e_mL, e_mDsp, e_mRep, e_mBind, e_mIxO, e_mBor, e_mBorB, e_mItems, e_mWk, e_mRev, e_mYes, e_mLc, e_gN, e_gE, e_gC, e_gTt, e_gTl, e_sNx, e_sThen, e_sDrop, e_sRet, e_sSet, e_sIf, e_sFor, e_sAsg, e_sPar, e_sSetO, e_sSetL, e_ownAt, e_freeze, e_sApp, e_sSetIx, e_sAugIx, e_sAug, e_sPop, e_sPopTo, e_fnM, e_bo_rt, e_bo_nx, e_bo_exc, e_startE, e_wipe0, e_wipe1, d_add, d_addib, d_addl, d_addt, d_sub, d_mul, d_div, d_mod, d_pow, d_cmp, d_neg, d_not, d_iadd, d_iop, d_toB, d_toI, d_trB, d_trI, d_trN, d_trL, d_trT, d_lenL, d_lenT, d_intI, d_intB, d_abs, d_gcd, d_max2, d_min2, d_sumI, d_anyB, d_allB, d_maxL, d_minL, d_listL, d_listT, d_tupL, d_tupT, d_idxL, d_idxT, d_lstL, d_lstT, d_revL, d_itL, d_itT, d_rng1, d_rng2, d_enum1, d_zip2, d_rev1L, d_rev1T, d_cutL, d_cutT, d_rep, d_mTup, d_mLst, d_setD, d_scN, d_scB, d_scI, d_scS, d_isN, d_isNN, d_nN, d_nB, d_nI, d_nS, d_nL, d_nT, if_true, if_false, ite_true, ite_false, reduceIte, List.length_cons, List.length_nil, Nat.zero_add, Nat.reduceAdd, Nat.reduceSub, Nat.reduceEqDiff, List.map_cons, List.map_nil, List.cons_append, List.nil_append, List.replicate, Option.map_some, Option.bind_some, Option.some.injEq, Bool.not_true, Bool.not_false, ne_eq, Bool.false_eq_true, Int.reduceEq, Int.reduceLT, Int.reduceLE, Int.reduceNeg, Int.reduceAdd, Int.reduceSub, Int.reduceMul, Int.reduceToNat, Int.toNat_natCast, Nat.reduceLT, Nat.reduceLeDiff, not_false_eq_true, not_true_eq_false, decide_true, decide_false, List.length_map, List.map_append, fmod_pos, fdiv_pos, and_true, true_and, and_self, Bool.and_true, Bool.or_false, Bool.and_false, Bool.or_true, Bool.true_and, Bool.false_and, ty_li_none, ty_li_bool, ty_li_int, ty_li_str, ty_li_list, ty_li_tuple, ty_tu_none, ty_tu_bool, ty_tu_int, ty_tu_str, ty_tu_list, ty_tu_tuple, ty_bo_none, ty_bo_bool, ty_bo_int, ty_bo_str, ty_bo_list, ty_bo_tuple, ty_in_none, ty_in_bool, ty_in_int, ty_in_str, ty_in_list, ty_in_tuple, ty_st_none, ty_st_bool, ty_st_int, ty_st_str, ty_st_list, ty_st_tuple, eq_int, ne_int, eq_bl, ne_bl, eq_st, ne_st, eq_li, ne_li, at_0, at_1, at_2, at_3, at_4, at_5, in_li, notin_li, c_z, c_s, gx_v, gx_s, e_mIsX, e_sTry, tc_ok, tc_exc, cm_nil, cm_cons, ex_ok, dx_nil, dx_v, dx_o, dx_x, dx_n, at_exx, Int.cast_ofNat_Int, e_mLrg1, e_mLrg2, d_lrg]
    rfl⟩)]
  have e : ws.map (fun w => pr (fi p q w, bd gs q w)) = (its p gs q ws).map pr := by unfold its; rw [List.map_map]; rfl
  rw [e]
  simp (disch := omega) only [sort_pr, bind_ok, bind_bad, bind_exc, at_ok, at_exc, ofO_some, oS_some, nox_okk, g_v, g_s, go_v, go_s, ga_v, ga_o, ga_s, s_z, s_s, fz_o, fz_v, fz_s, e_mGet, e_mC, e_m2, e_m1, e_mT, e_mB, e_mAndB, e_mOrB, e_mNotB, e_mAnd, e_mOr, e_mIf, e_mChain, e_mNil, e_mCons, e_mSeq, e_mCall, e_mNo, e_mPart, e_mCut, e_mIs, e_mIs2, e_mL, e_mDsp, e_mRep, e_mBind, e_mIxO, e_mBor, e_mBorB, e_mItems, e_mWk, e_mRev, e_mYes, e_mLc, e_gN, e_gE, e_gC, e_gTt, e_gTl, e_sNx, e_sThen, e_sDrop, e_sRet, e_sSet, e_sIf, e_sFor, e_sAsg, e_sPar, e_sSetO, e_sSetL, e_ownAt, e_freeze, e_sApp, e_sSetIx, e_sAugIx, e_sAug, e_sPop, e_sPopTo, e_fnM, e_bo_rt, e_bo_nx, e_bo_exc, e_startE, e_wipe0, e_wipe1, d_add, d_addib, d_addl, d_addt, d_sub, d_mul, d_div, d_mod, d_pow, d_cmp, d_neg, d_not, d_iadd, d_iop, d_toB, d_toI, d_trB, d_trI, d_trN, d_trL, d_trT, d_lenL, d_lenT, d_intI, d_intB, d_abs, d_gcd, d_max2, d_min2, d_sumI, d_anyB, d_allB, d_maxL, d_minL, d_listL, d_listT, d_tupL, d_tupT, d_idxL, d_idxT, d_lstL, d_lstT, d_revL, d_itL, d_itT, d_rng1, d_rng2, d_enum1, d_zip2, d_rev1L, d_rev1T, d_cutL, d_cutT, d_rep, d_mTup, d_mLst, d_setD, d_scN, d_scB, d_scI, d_scS, d_isN, d_isNN, d_nN, d_nB, d_nI, d_nS, d_nL, d_nT, if_true, if_false, ite_true, ite_false, reduceIte, List.length_cons, List.length_nil, Nat.zero_add, Nat.reduceAdd, Nat.reduceSub, Nat.reduceEqDiff, List.map_cons, List.map_nil, List.cons_append, List.nil_append, List.replicate, Option.map_some, Option.bind_some, Option.some.injEq, Bool.not_true, Bool.not_false, ne_eq, Bool.false_eq_true, Int.reduceEq, Int.reduceLT, Int.reduceLE, Int.reduceNeg, Int.reduceAdd, Int.reduceSub, Int.reduceMul, Int.reduceToNat, Int.toNat_natCast, Nat.reduceLT, Nat.reduceLeDiff, not_false_eq_true, not_true_eq_false, decide_true, decide_false, List.length_map, List.map_append, fmod_pos, fdiv_pos, and_true, true_and, and_self, Bool.and_true, Bool.or_false, Bool.and_false, Bool.or_true, Bool.true_and, Bool.false_and, ty_li_none, ty_li_bool, ty_li_int, ty_li_str, ty_li_list, ty_li_tuple, ty_tu_none, ty_tu_bool, ty_tu_int, ty_tu_str, ty_tu_list, ty_tu_tuple, ty_bo_none, ty_bo_bool, ty_bo_int, ty_bo_str, ty_bo_list, ty_bo_tuple, ty_in_none, ty_in_bool, ty_in_int, ty_in_str, ty_in_list, ty_in_tuple, ty_st_none, ty_st_bool, ty_st_int, ty_st_str, ty_st_list, ty_st_tuple, eq_int, ne_int, eq_bl, ne_bl, eq_st, ne_st, eq_li, ne_li, at_0, at_1, at_2, at_3, at_4, at_5, in_li, notin_li, c_z, c_s, gx_v, gx_s, e_mIsX, e_sTry, tc_ok, tc_exc, cm_nil, cm_cons, ex_ok, dx_nil, dx_v, dx_o, dx_x, dx_n, at_exx, Int.cast_ofNat_Int, e_mLrg1, e_mLrg2, d_lrg]
end
theorem e_tgp {i j : Nat} (x : Int × Int) (ρ : Evn) : gT 2 (gC (gN i) (gC (gN j) gE)) (pr x) ρ = some (stE (stE ρ i (.val (.int x.1))) j (.val (.int x.2))) := by simp (disch := omega) only [bind_ok, bind_bad, bind_exc, at_ok, at_exc, ofO_some, oS_some, nox_okk, g_v, g_s, go_v, go_s, ga_v, ga_o, ga_s, s_z, s_s, fz_o, fz_v, fz_s, e_mGet, e_mC, e_m2, e_m1, e_mT, e_mB, e_mAndB, e_mOrB, e_mNotB, e_mAnd, e_mOr, e_mIf, e_mChain, e_mNil, e_mCons, e_mSeq, e_mCall, e_mNo, e_mPart, e_mCut, e_mIs, e_mIs2, e_mL, e_mDsp, e_mRep, e_mBind, e_mIxO, e_mBor, e_mBorB, e_mItems, e_mWk, e_mRev, e_mYes, e_mLc, e_gN, e_gE, e_gC, e_gTt, e_gTl, e_sNx, e_sThen, e_sDrop, e_sRet, e_sSet, e_sIf, e_sFor, e_sAsg, e_sPar, e_sSetO, e_sSetL, e_ownAt, e_freeze, e_sApp, e_sSetIx, e_sAugIx, e_sAug, e_sPop, e_sPopTo, e_fnM, e_bo_rt, e_bo_nx, e_bo_exc, e_startE, e_wipe0, e_wipe1, d_add, d_addib, d_addl, d_addt, d_sub, d_mul, d_div, d_mod, d_pow, d_cmp, d_neg, d_not, d_iadd, d_iop, d_toB, d_toI, d_trB, d_trI, d_trN, d_trL, d_trT, d_lenL, d_lenT, d_intI, d_intB, d_abs, d_gcd, d_max2, d_min2, d_sumI, d_anyB, d_allB, d_maxL, d_minL, d_listL, d_listT, d_tupL, d_tupT, d_idxL, d_idxT, d_lstL, d_lstT, d_revL, d_itL, d_itT, d_rng1, d_rng2, d_enum1, d_zip2, d_rev1L, d_rev1T, d_cutL, d_cutT, d_rep, d_mTup, d_mLst, d_setD, d_scN, d_scB, d_scI, d_scS, d_isN, d_isNN, d_nN, d_nB, d_nI, d_nS, d_nL, d_nT, if_true, if_false, ite_true, ite_false, reduceIte, List.length_cons, List.length_nil, Nat.zero_add, Nat.reduceAdd, Nat.reduceSub, Nat.reduceEqDiff, List.map_cons, List.map_nil, List.cons_append, List.nil_append, List.replicate, Option.map_some, Option.bind_some, Option.some.injEq, Bool.not_true, Bool.not_false, ne_eq, Bool.false_eq_true, Int.reduceEq, Int.reduceLT, Int.reduceLE, Int.reduceNeg, Int.reduceAdd, Int.reduceSub, Int.reduceMul, Int.reduceToNat, Int.toNat_natCast, Nat.reduceLT, Nat.reduceLeDiff, not_false_eq_true, not_true_eq_false, decide_true, decide_false, List.length_map, List.map_append, fmod_pos, fdiv_pos, and_true, true_and, and_self, Bool.and_true, Bool.or_false, Bool.and_false, Bool.or_true, Bool.true_and, Bool.false_and, ty_li_none, ty_li_bool, ty_li_int, ty_li_str, ty_li_list, ty_li_tuple, ty_tu_none, ty_tu_bool, ty_tu_int, ty_tu_str, ty_tu_list, ty_tu_tuple, ty_bo_none, ty_bo_bool, ty_bo_int, ty_bo_str, ty_bo_list, ty_bo_tuple, ty_in_none, ty_in_bool, ty_in_int, ty_in_str, ty_in_list, ty_in_tuple, ty_st_none, ty_st_bool, ty_st_int, ty_st_str, ty_st_list, ty_st_tuple, eq_int, ne_int, eq_bl, ne_bl, eq_st, ne_st, eq_li, ne_li, at_0, at_1, at_2, at_3, at_4, at_5, in_li, notin_li, c_z, c_s, gx_v, gx_s, e_mIsX, e_sTry, tc_ok, tc_exc, cm_nil, cm_cons, ex_ok, dx_nil, dx_v, dx_o, dx_x, dx_n, at_exx, Int.cast_ofNat_Int, e_mLrg1, e_mLrg2, d_lrg]
theorem run_loop (a : PyData) (wl : List PyData) (p t : Int) (q most : PyData) (hm : mulOk t p) : ∀ (r : List (Int × Int)) (l fd : Int) (y z : Option Cel), ∃ l' y' z', PV.forM (gT 2 (gC (gN 6) (gC (gN 7) gE))) l_worn_beat_0 (r.map pr) [some (.val (.tuple (.int p :: wl))), some (.val q), some (.val most), some (.val (.int t)), some (.val (.int l)), some (.val (.int fd)), y, z] =
    .ok (.nx, [some (.val (.tuple (.int p :: wl))), some (.val q), some (.val most), some (.val (.int t)), some (.val (.int l')), some (.val (.int (runW (t * p) r l fd))), y', z'])
  | [], l, fd, y, z => ⟨l, y, z, rfl⟩
  | (f, b) :: r, l, fd, y, z => by
    rw [List.map_cons, forM_cons, e_tgp]
    by_cases c : l > 0
    · obtain ⟨l', y', z', h⟩ := run_loop a wl p t q most hm r (l - b) (t * p + f) (some (.val (.int f))) (some (.val (.int b)))
      refine ⟨l', y', z', ?_⟩
      unfold runW
      rw [if_pos c]
      simp (disch := omega) only [u_worn_beat_0, c, hm, h, bind_ok, bind_bad, bind_exc, at_ok, at_exc, ofO_some, oS_some, nox_okk, g_v, g_s, go_v, go_s, ga_v, ga_o, ga_s, s_z, s_s, fz_o, fz_v, fz_s, e_mGet, e_mC, e_m2, e_m1, e_mT, e_mB, e_mAndB, e_mOrB, e_mNotB, e_mAnd, e_mOr, e_mIf, e_mChain, e_mNil, e_mCons, e_mSeq, e_mCall, e_mNo, e_mPart, e_mCut, e_mIs, e_mIs2, e_mL, e_mDsp, e_mRep, e_mBind, e_mIxO, e_mBor, e_mBorB, e_mItems, e_mWk, e_mRev, e_mYes, e_mLc, e_gN, e_gE, e_gC, e_gTt, e_gTl, e_sNx, e_sThen, e_sDrop, e_sRet, e_sSet, e_sIf, e_sFor, e_sAsg, e_sPar, e_sSetO, e_sSetL, e_ownAt, e_freeze, e_sApp, e_sSetIx, e_sAugIx, e_sAug, e_sPop, e_sPopTo, e_fnM, e_bo_rt, e_bo_nx, e_bo_exc, e_startE, e_wipe0, e_wipe1, d_add, d_addib, d_addl, d_addt, d_sub, d_mul, d_div, d_mod, d_pow, d_cmp, d_neg, d_not, d_iadd, d_iop, d_toB, d_toI, d_trB, d_trI, d_trN, d_trL, d_trT, d_lenL, d_lenT, d_intI, d_intB, d_abs, d_gcd, d_max2, d_min2, d_sumI, d_anyB, d_allB, d_maxL, d_minL, d_listL, d_listT, d_tupL, d_tupT, d_idxL, d_idxT, d_lstL, d_lstT, d_revL, d_itL, d_itT, d_rng1, d_rng2, d_enum1, d_zip2, d_rev1L, d_rev1T, d_cutL, d_cutT, d_rep, d_mTup, d_mLst, d_setD, d_scN, d_scB, d_scI, d_scS, d_isN, d_isNN, d_nN, d_nB, d_nI, d_nS, d_nL, d_nT, if_true, if_false, ite_true, ite_false, reduceIte, List.length_cons, List.length_nil, Nat.zero_add, Nat.reduceAdd, Nat.reduceSub, Nat.reduceEqDiff, List.map_cons, List.map_nil, List.cons_append, List.nil_append, List.replicate, Option.map_some, Option.bind_some, Option.some.injEq, Bool.not_true, Bool.not_false, ne_eq, Bool.false_eq_true, Int.reduceEq, Int.reduceLT, Int.reduceLE, Int.reduceNeg, Int.reduceAdd, Int.reduceSub, Int.reduceMul, Int.reduceToNat, Int.toNat_natCast, Nat.reduceLT, Nat.reduceLeDiff, not_false_eq_true, not_true_eq_false, decide_true, decide_false, List.length_map, List.map_append, fmod_pos, fdiv_pos, and_true, true_and, and_self, Bool.and_true, Bool.or_false, Bool.and_false, Bool.or_true, Bool.true_and, Bool.false_and, ty_li_none, ty_li_bool, ty_li_int, ty_li_str, ty_li_list, ty_li_tuple, ty_tu_none, ty_tu_bool, ty_tu_int, ty_tu_str, ty_tu_list, ty_tu_tuple, ty_bo_none, ty_bo_bool, ty_bo_int, ty_bo_str, ty_bo_list, ty_bo_tuple, ty_in_none, ty_in_bool, ty_in_int, ty_in_str, ty_in_list, ty_in_tuple, ty_st_none, ty_st_bool, ty_st_int, ty_st_str, ty_st_list, ty_st_tuple, eq_int, ne_int, eq_bl, ne_bl, eq_st, ne_st, eq_li, ne_li, at_0, at_1, at_2, at_3, at_4, at_5, in_li, notin_li, c_z, c_s, gx_v, gx_s, e_mIsX, e_sTry, tc_ok, tc_exc, cm_nil, cm_cons, ex_ok, dx_nil, dx_v, dx_o, dx_x, dx_n, at_exx, Int.cast_ofNat_Int, e_mLrg1, e_mLrg2, d_lrg]
    · obtain ⟨l', y', z', h⟩ := run_loop a wl p t q most hm r l fd (some (.val (.int f))) (some (.val (.int b)))
      refine ⟨l', y', z', ?_⟩
      unfold runW
      rw [if_neg c]
      simp (disch := omega) only [u_worn_beat_0, c, hm, h, bind_ok, bind_bad, bind_exc, at_ok, at_exc, ofO_some, oS_some, nox_okk, g_v, g_s, go_v, go_s, ga_v, ga_o, ga_s, s_z, s_s, fz_o, fz_v, fz_s, e_mGet, e_mC, e_m2, e_m1, e_mT, e_mB, e_mAndB, e_mOrB, e_mNotB, e_mAnd, e_mOr, e_mIf, e_mChain, e_mNil, e_mCons, e_mSeq, e_mCall, e_mNo, e_mPart, e_mCut, e_mIs, e_mIs2, e_mL, e_mDsp, e_mRep, e_mBind, e_mIxO, e_mBor, e_mBorB, e_mItems, e_mWk, e_mRev, e_mYes, e_mLc, e_gN, e_gE, e_gC, e_gTt, e_gTl, e_sNx, e_sThen, e_sDrop, e_sRet, e_sSet, e_sIf, e_sFor, e_sAsg, e_sPar, e_sSetO, e_sSetL, e_ownAt, e_freeze, e_sApp, e_sSetIx, e_sAugIx, e_sAug, e_sPop, e_sPopTo, e_fnM, e_bo_rt, e_bo_nx, e_bo_exc, e_startE, e_wipe0, e_wipe1, d_add, d_addib, d_addl, d_addt, d_sub, d_mul, d_div, d_mod, d_pow, d_cmp, d_neg, d_not, d_iadd, d_iop, d_toB, d_toI, d_trB, d_trI, d_trN, d_trL, d_trT, d_lenL, d_lenT, d_intI, d_intB, d_abs, d_gcd, d_max2, d_min2, d_sumI, d_anyB, d_allB, d_maxL, d_minL, d_listL, d_listT, d_tupL, d_tupT, d_idxL, d_idxT, d_lstL, d_lstT, d_revL, d_itL, d_itT, d_rng1, d_rng2, d_enum1, d_zip2, d_rev1L, d_rev1T, d_cutL, d_cutT, d_rep, d_mTup, d_mLst, d_setD, d_scN, d_scB, d_scI, d_scS, d_isN, d_isNN, d_nN, d_nB, d_nI, d_nS, d_nL, d_nT, if_true, if_false, ite_true, ite_false, reduceIte, List.length_cons, List.length_nil, Nat.zero_add, Nat.reduceAdd, Nat.reduceSub, Nat.reduceEqDiff, List.map_cons, List.map_nil, List.cons_append, List.nil_append, List.replicate, Option.map_some, Option.bind_some, Option.some.injEq, Bool.not_true, Bool.not_false, ne_eq, Bool.false_eq_true, Int.reduceEq, Int.reduceLT, Int.reduceLE, Int.reduceNeg, Int.reduceAdd, Int.reduceSub, Int.reduceMul, Int.reduceToNat, Int.toNat_natCast, Nat.reduceLT, Nat.reduceLeDiff, not_false_eq_true, not_true_eq_false, decide_true, decide_false, List.length_map, List.map_append, fmod_pos, fdiv_pos, and_true, true_and, and_self, Bool.and_true, Bool.or_false, Bool.and_false, Bool.or_true, Bool.true_and, Bool.false_and, ty_li_none, ty_li_bool, ty_li_int, ty_li_str, ty_li_list, ty_li_tuple, ty_tu_none, ty_tu_bool, ty_tu_int, ty_tu_str, ty_tu_list, ty_tu_tuple, ty_bo_none, ty_bo_bool, ty_bo_int, ty_bo_str, ty_bo_list, ty_bo_tuple, ty_in_none, ty_in_bool, ty_in_int, ty_in_str, ty_in_list, ty_in_tuple, ty_st_none, ty_st_bool, ty_st_int, ty_st_str, ty_st_list, ty_st_tuple, eq_int, ne_int, eq_bl, ne_bl, eq_st, ne_st, eq_li, ne_li, at_0, at_1, at_2, at_3, at_4, at_5, in_li, notin_li, c_z, c_s, gx_v, gx_s, e_mIsX, e_sTry, tc_ok, tc_exc, cm_nil, cm_cons, ex_ok, dx_nil, dx_v, dx_o, dx_x, dx_n, at_exx, Int.cast_ofNat_Int, e_mLrg1, e_mLrg2, d_lrg]
theorem Tw_bd : ∀ {l : List (Int × Int)}, (∀ x ∈ l, 1 ≤ x.2 ∧ x.2 ≤ 4000) → (l.length : Int) ≤ Tw l ∧ Tw l ≤ 4000 * l.length
  | [], _ => by simp [Tw]
  | x :: r, h => by
    have ih := Tw_bd (l := r) (fun y hy => h y (List.mem_cons_of_mem _ hy))
    have hx := h x (List.mem_cons_self ..)
    rw [Tw_cons, List.length_cons]
    omega
section
variable {p : Int} {ws : List Stn} {gs : List Int} (hp : 0 < p) (hp2 : p < 2 ^ 40) (h0 : 1 ≤ ws.length) (hl : ws.length ≤ 100) (hw : ∀ w ∈ ws, okW w)
include hp hp2 h0 hl hw
theorem Tw_its (q : Int) : 1 ≤ Tw (its p gs q ws) ∧ Tw (its p gs q ws) ≤ 400000 := by
  have h := Tw_bd (its_ok (gs := gs) (q := q) hp hw).2
  have e : (its p gs q ws).length = ws.length := by unfold its; rw [List.length_map]
  rw [e] at h
  omega
theorem worn_ok (q most : Int) : m_worn_beat [lo p ws gs, .int q, .int most] = .ok (.int (Wn p most (its p gs q ws))) := by
  have ht := turn_wear_ok (gs := gs) hp hp2 hl hw q
  have hb := turn_bends_ok (gs := gs) hp hp2 hl hw q
  obtain ⟨t1, t2⟩ := Tw_its (gs := gs) hp hp2 h0 hl hw q
  unfold Wn
  generalize Tw (its p gs q ws) = T at *
  have dT : divOk T := divOk_s (by omega) (by omega)
  have m1 : mulOk ((most - 1) / T) T := mulOk_r (by omega) (by omega)
  have m2 : mulOk ((most - 1) / T) p := mulOk_r (by omega) (by omega)
  obtain ⟨l', y', z', hr⟩ := run_loop .none [.list (ws.map s3), li gs] p ((most - 1) / T) (.int q) (.int most) m2 ((its p gs q ws).mergeSort leP) (most - (most - 1) / T * T) ((most - 1) / T * p) none none
  unfold m_worn_beat b_worn_beat
  rw [fn_go (n := 3) rfl]
  change bodyOut (sThen _ _ [some (.val (lo p ws gs)), some (.val (.int q)), some (.val (.int most)), none, none, none, none, none]) = _
  simp (disch := omega) only [ht, dT, m1, m2, hb, hr, bind_ok, bind_bad, bind_exc, at_ok, at_exc, ofO_some, oS_some, nox_okk, g_v, g_s, go_v, go_s, ga_v, ga_o, ga_s, s_z, s_s, fz_o, fz_v, fz_s, e_mGet, e_mC, e_m2, e_m1, e_mT, e_mB, e_mAndB, e_mOrB, e_mNotB, e_mAnd, e_mOr, e_mIf, e_mChain, e_mNil, e_mCons, e_mSeq, e_mCall, e_mNo, e_mPart, e_mCut, e_mIs, e_mIs2, e_mL, e_mDsp, e_mRep, e_mBind, e_mIxO, e_mBor, e_mBorB, e_mItems, e_mWk, e_mRev, e_mYes, e_mLc, e_gN, e_gE, e_gC, e_gTt, e_gTl, e_sNx, e_sThen, e_sDrop, e_sRet, e_sSet, e_sIf, e_sFor, e_sAsg, e_sPar, e_sSetO, e_sSetL, e_ownAt, e_freeze, e_sApp, e_sSetIx, e_sAugIx, e_sAug, e_sPop, e_sPopTo, e_fnM, e_bo_rt, e_bo_nx, e_bo_exc, e_startE, e_wipe0, e_wipe1, d_add, d_addib, d_addl, d_addt, d_sub, d_mul, d_div, d_mod, d_pow, d_cmp, d_neg, d_not, d_iadd, d_iop, d_toB, d_toI, d_trB, d_trI, d_trN, d_trL, d_trT, d_lenL, d_lenT, d_intI, d_intB, d_abs, d_gcd, d_max2, d_min2, d_sumI, d_anyB, d_allB, d_maxL, d_minL, d_listL, d_listT, d_tupL, d_tupT, d_idxL, d_idxT, d_lstL, d_lstT, d_revL, d_itL, d_itT, d_rng1, d_rng2, d_enum1, d_zip2, d_rev1L, d_rev1T, d_cutL, d_cutT, d_rep, d_mTup, d_mLst, d_setD, d_scN, d_scB, d_scI, d_scS, d_isN, d_isNN, d_nN, d_nB, d_nI, d_nS, d_nL, d_nT, if_true, if_false, ite_true, ite_false, reduceIte, List.length_cons, List.length_nil, Nat.zero_add, Nat.reduceAdd, Nat.reduceSub, Nat.reduceEqDiff, List.map_cons, List.map_nil, List.cons_append, List.nil_append, List.replicate, Option.map_some, Option.bind_some, Option.some.injEq, Bool.not_true, Bool.not_false, ne_eq, Bool.false_eq_true, Int.reduceEq, Int.reduceLT, Int.reduceLE, Int.reduceNeg, Int.reduceAdd, Int.reduceSub, Int.reduceMul, Int.reduceToNat, Int.toNat_natCast, Nat.reduceLT, Nat.reduceLeDiff, not_false_eq_true, not_true_eq_false, decide_true, decide_false, List.length_map, List.map_append, fmod_pos, fdiv_pos, and_true, true_and, and_self, Bool.and_true, Bool.or_false, Bool.and_false, Bool.or_true, Bool.true_and, Bool.false_and, ty_li_none, ty_li_bool, ty_li_int, ty_li_str, ty_li_list, ty_li_tuple, ty_tu_none, ty_tu_bool, ty_tu_int, ty_tu_str, ty_tu_list, ty_tu_tuple, ty_bo_none, ty_bo_bool, ty_bo_int, ty_bo_str, ty_bo_list, ty_bo_tuple, ty_in_none, ty_in_bool, ty_in_int, ty_in_str, ty_in_list, ty_in_tuple, ty_st_none, ty_st_bool, ty_st_int, ty_st_str, ty_st_list, ty_st_tuple, eq_int, ne_int, eq_bl, ne_bl, eq_st, ne_st, eq_li, ne_li, at_0, at_1, at_2, at_3, at_4, at_5, in_li, notin_li, c_z, c_s, gx_v, gx_s, e_mIsX, e_sTry, tc_ok, tc_exc, cm_nil, cm_cons, ex_ok, dx_nil, dx_v, dx_o, dx_x, dx_n, at_exx, Int.cast_ofNat_Int, e_mLrg1, e_mLrg2, d_lrg]
/-- the smallest pair of a beat and a piece -/
theorem first_ok (most : Int) (hp3 : p < 2 ^ 20) : ∃ t q : Int, m_first_worn [lo p ws gs, .int most] = .ok (pr (t, q)) ∧ 0 ≤ q ∧ q < p ∧ t = Wn p most (its p gs q ws) ∧ ∀ r, 0 ≤ r → r < p → leP (t, q) (Wn p most (its p gs r ws), r) = true := by
  obtain ⟨n, hn⟩ : ∃ n : Nat, p = n := ⟨p.toNat, by omega⟩
  have h2s : 2 ≤ sizeLine := by rw [line_eq]; omega
  have rp : r62 p := r62_s (by omega) (by omega)
  have hlp : (rangeL 0 p.toNat).length ≤ sizeLine := by rw [rangeL_len, line_eq]; omega
  obtain ⟨m, hm1, hm2, hm3⟩ := min_pr (ps := (List.range n).map fun (k : Nat) => (Wn p most (its p gs k ws), (k : Int))) (by
    intro e
    have := congrArg List.length e
    rw [List.length_map, List.length_range, List.length_nil] at this
    omega)
  obtain ⟨k, hk, rfl⟩ := List.mem_map.mp hm1
  have hk := List.mem_range.mp hk
  refine ⟨_, (k : Int), ?_, by omega, by omega, rfl, fun r h1 h2 => hm3 _ (List.mem_map.mpr ⟨r.toNat, List.mem_range.mpr (by omega), by
    have : ((r.toNat : Nat) : Int) = r := by omega
    rw [this]⟩)⟩
  unfold m_first_worn b_first_worn
  rw [fn_go (n := 2) rfl]
  change bodyOut (sRet _ [some (.val (lo p ws gs)), some (.val (.int most)), none]) = _
  simp (disch := omega) only [rp, hlp, bind_ok, bind_bad, bind_exc, at_ok, at_exc, ofO_some, oS_some, nox_okk, g_v, g_s, go_v, go_s, ga_v, ga_o, ga_s, s_z, s_s, fz_o, fz_v, fz_s, e_mGet, e_mC, e_m2, e_m1, e_mT, e_mB, e_mAndB, e_mOrB, e_mNotB, e_mAnd, e_mOr, e_mIf, e_mChain, e_mNil, e_mCons, e_mSeq, e_mCall, e_mNo, e_mPart, e_mCut, e_mIs, e_mIs2, e_mL, e_mDsp, e_mRep, e_mBind, e_mIxO, e_mBor, e_mBorB, e_mItems, e_mWk, e_mRev, e_mYes, e_mLc, e_gN, e_gE, e_gC, e_gTt, e_gTl, e_sNx, e_sThen, e_sDrop, e_sRet, e_sSet, e_sIf, e_sFor, e_sAsg, e_sPar, e_sSetO, e_sSetL, e_ownAt, e_freeze, e_sApp, e_sSetIx, e_sAugIx, e_sAug, e_sPop, e_sPopTo, e_fnM, e_bo_rt, e_bo_nx, e_bo_exc, e_startE, e_wipe0, e_wipe1, d_add, d_addib, d_addl, d_addt, d_sub, d_mul, d_div, d_mod, d_pow, d_cmp, d_neg, d_not, d_iadd, d_iop, d_toB, d_toI, d_trB, d_trI, d_trN, d_trL, d_trT, d_lenL, d_lenT, d_intI, d_intB, d_abs, d_gcd, d_max2, d_min2, d_sumI, d_anyB, d_allB, d_maxL, d_minL, d_listL, d_listT, d_tupL, d_tupT, d_idxL, d_idxT, d_lstL, d_lstT, d_revL, d_itL, d_itT, d_rng1, d_rng2, d_enum1, d_zip2, d_rev1L, d_rev1T, d_cutL, d_cutT, d_rep, d_mTup, d_mLst, d_setD, d_scN, d_scB, d_scI, d_scS, d_isN, d_isNN, d_nN, d_nB, d_nI, d_nS, d_nL, d_nT, if_true, if_false, ite_true, ite_false, reduceIte, List.length_cons, List.length_nil, Nat.zero_add, Nat.reduceAdd, Nat.reduceSub, Nat.reduceEqDiff, List.map_cons, List.map_nil, List.cons_append, List.nil_append, List.replicate, Option.map_some, Option.bind_some, Option.some.injEq, Bool.not_true, Bool.not_false, ne_eq, Bool.false_eq_true, Int.reduceEq, Int.reduceLT, Int.reduceLE, Int.reduceNeg, Int.reduceAdd, Int.reduceSub, Int.reduceMul, Int.reduceToNat, Int.toNat_natCast, Nat.reduceLT, Nat.reduceLeDiff, not_false_eq_true, not_true_eq_false, decide_true, decide_false, List.length_map, List.map_append, fmod_pos, fdiv_pos, and_true, true_and, and_self, Bool.and_true, Bool.or_false, Bool.and_false, Bool.or_true, Bool.true_and, Bool.false_and, ty_li_none, ty_li_bool, ty_li_int, ty_li_str, ty_li_list, ty_li_tuple, ty_tu_none, ty_tu_bool, ty_tu_int, ty_tu_str, ty_tu_list, ty_tu_tuple, ty_bo_none, ty_bo_bool, ty_bo_int, ty_bo_str, ty_bo_list, ty_bo_tuple, ty_in_none, ty_in_bool, ty_in_int, ty_in_str, ty_in_list, ty_in_tuple, ty_st_none, ty_st_bool, ty_st_int, ty_st_str, ty_st_list, ty_st_tuple, eq_int, ne_int, eq_bl, ne_bl, eq_st, ne_st, eq_li, ne_li, at_0, at_1, at_2, at_3, at_4, at_5, in_li, notin_li, c_z, c_s, gx_v, gx_s, e_mIsX, e_sTry, tc_ok, tc_exc, cm_nil, cm_cons, ex_ok, dx_nil, dx_v, dx_o, dx_x, dx_n, at_exx, Int.cast_ofNat_Int, e_mLrg1, e_mLrg2, d_lrg]
  rw [lcM_rng (fun (k : Nat) => pr (Wn p most (its p gs k ws), (k : Int))) (fun k _ => by
    simp (disch := omega) only [worn_ok hp hp2 h0 hl hw, h2s, bind_ok, bind_bad, bind_exc, at_ok, at_exc, ofO_some, oS_some, nox_okk, g_v, g_s, go_v, go_s, ga_v, ga_o, ga_s, s_z, s_s, fz_o, fz_v, fz_s, e_mGet, e_mC, e_m2, e_m1, e_mT, e_mB, e_mAndB, e_mOrB, e_mNotB, e_mAnd, e_mOr, e_mIf, e_mChain, e_mNil, e_mCons, e_mSeq, e_mCall, e_mNo, e_mPart, e_mCut, e_mIs, e_mIs2, e_mL, e_mDsp, e_mRep, e_mBind, e_mIxO, e_mBor, e_mBorB, e_mItems, e_mWk, e_mRev, e_mYes, e_mLc, e_gN, e_gE, e_gC, e_gTt, e_gTl, e_sNx, e_sThen, e_sDrop, e_sRet, e_sSet, e_sIf, e_sFor, e_sAsg, e_sPar, e_sSetO, e_sSetL, e_ownAt, e_freeze, e_sApp, e_sSetIx, e_sAugIx, e_sAug, e_sPop, e_sPopTo, e_fnM, e_bo_rt, e_bo_nx, e_bo_exc, e_startE, e_wipe0, e_wipe1, d_add, d_addib, d_addl, d_addt, d_sub, d_mul, d_div, d_mod, d_pow, d_cmp, d_neg, d_not, d_iadd, d_iop, d_toB, d_toI, d_trB, d_trI, d_trN, d_trL, d_trT, d_lenL, d_lenT, d_intI, d_intB, d_abs, d_gcd, d_max2, d_min2, d_sumI, d_anyB, d_allB, d_maxL, d_minL, d_listL, d_listT, d_tupL, d_tupT, d_idxL, d_idxT, d_lstL, d_lstT, d_revL, d_itL, d_itT, d_rng1, d_rng2, d_enum1, d_zip2, d_rev1L, d_rev1T, d_cutL, d_cutT, d_rep, d_mTup, d_mLst, d_setD, d_scN, d_scB, d_scI, d_scS, d_isN, d_isNN, d_nN, d_nB, d_nI, d_nS, d_nL, d_nT, if_true, if_false, ite_true, ite_false, reduceIte, List.length_cons, List.length_nil, Nat.zero_add, Nat.reduceAdd, Nat.reduceSub, Nat.reduceEqDiff, List.map_cons, List.map_nil, List.cons_append, List.nil_append, List.replicate, Option.map_some, Option.bind_some, Option.some.injEq, Bool.not_true, Bool.not_false, ne_eq, Bool.false_eq_true, Int.reduceEq, Int.reduceLT, Int.reduceLE, Int.reduceNeg, Int.reduceAdd, Int.reduceSub, Int.reduceMul, Int.reduceToNat, Int.toNat_natCast, Nat.reduceLT, Nat.reduceLeDiff, not_false_eq_true, not_true_eq_false, decide_true, decide_false, List.length_map, List.map_append, fmod_pos, fdiv_pos, and_true, true_and, and_self, Bool.and_true, Bool.or_false, Bool.and_false, Bool.or_true, Bool.true_and, Bool.false_and, ty_li_none, ty_li_bool, ty_li_int, ty_li_str, ty_li_list, ty_li_tuple, ty_tu_none, ty_tu_bool, ty_tu_int, ty_tu_str, ty_tu_list, ty_tu_tuple, ty_bo_none, ty_bo_bool, ty_bo_int, ty_bo_str, ty_bo_list, ty_bo_tuple, ty_in_none, ty_in_bool, ty_in_int, ty_in_str, ty_in_list, ty_in_tuple, ty_st_none, ty_st_bool, ty_st_int, ty_st_str, ty_st_list, ty_st_tuple, eq_int, ne_int, eq_bl, ne_bl, eq_st, ne_st, eq_li, ne_li, at_0, at_1, at_2, at_3, at_4, at_5, in_li, notin_li, c_z, c_s, gx_v, gx_s, e_mIsX, e_sTry, tc_ok, tc_exc, cm_nil, cm_cons, ex_ok, dx_nil, dx_v, dx_o, dx_x, dx_n, at_exx, Int.cast_ofNat_Int, e_mLrg1, e_mLrg2, d_lrg])]
  have e : p.toNat = n := by omega
  have e2 : (List.range n).map (fun (k : Nat) => pr (Wn p most (its p gs k ws), (k : Int))) = ((List.range n).map fun (k : Nat) => (Wn p most (its p gs k ws), (k : Int))).map pr := by rw [List.map_map]; rfl
  rw [e, e2]
  simp (disch := omega) only [hm2, bind_ok, bind_bad, bind_exc, at_ok, at_exc, ofO_some, oS_some, nox_okk, g_v, g_s, go_v, go_s, ga_v, ga_o, ga_s, s_z, s_s, fz_o, fz_v, fz_s, e_mGet, e_mC, e_m2, e_m1, e_mT, e_mB, e_mAndB, e_mOrB, e_mNotB, e_mAnd, e_mOr, e_mIf, e_mChain, e_mNil, e_mCons, e_mSeq, e_mCall, e_mNo, e_mPart, e_mCut, e_mIs, e_mIs2, e_mL, e_mDsp, e_mRep, e_mBind, e_mIxO, e_mBor, e_mBorB, e_mItems, e_mWk, e_mRev, e_mYes, e_mLc, e_gN, e_gE, e_gC, e_gTt, e_gTl, e_sNx, e_sThen, e_sDrop, e_sRet, e_sSet, e_sIf, e_sFor, e_sAsg, e_sPar, e_sSetO, e_sSetL, e_ownAt, e_freeze, e_sApp, e_sSetIx, e_sAugIx, e_sAug, e_sPop, e_sPopTo, e_fnM, e_bo_rt, e_bo_nx, e_bo_exc, e_startE, e_wipe0, e_wipe1, d_add, d_addib, d_addl, d_addt, d_sub, d_mul, d_div, d_mod, d_pow, d_cmp, d_neg, d_not, d_iadd, d_iop, d_toB, d_toI, d_trB, d_trI, d_trN, d_trL, d_trT, d_lenL, d_lenT, d_intI, d_intB, d_abs, d_gcd, d_max2, d_min2, d_sumI, d_anyB, d_allB, d_maxL, d_minL, d_listL, d_listT, d_tupL, d_tupT, d_idxL, d_idxT, d_lstL, d_lstT, d_revL, d_itL, d_itT, d_rng1, d_rng2, d_enum1, d_zip2, d_rev1L, d_rev1T, d_cutL, d_cutT, d_rep, d_mTup, d_mLst, d_setD, d_scN, d_scB, d_scI, d_scS, d_isN, d_isNN, d_nN, d_nB, d_nI, d_nS, d_nL, d_nT, if_true, if_false, ite_true, ite_false, reduceIte, List.length_cons, List.length_nil, Nat.zero_add, Nat.reduceAdd, Nat.reduceSub, Nat.reduceEqDiff, List.map_cons, List.map_nil, List.cons_append, List.nil_append, List.replicate, Option.map_some, Option.bind_some, Option.some.injEq, Bool.not_true, Bool.not_false, ne_eq, Bool.false_eq_true, Int.reduceEq, Int.reduceLT, Int.reduceLE, Int.reduceNeg, Int.reduceAdd, Int.reduceSub, Int.reduceMul, Int.reduceToNat, Int.toNat_natCast, Nat.reduceLT, Nat.reduceLeDiff, not_false_eq_true, not_true_eq_false, decide_true, decide_false, List.length_map, List.map_append, fmod_pos, fdiv_pos, and_true, true_and, and_self, Bool.and_true, Bool.or_false, Bool.and_false, Bool.or_true, Bool.true_and, Bool.false_and, ty_li_none, ty_li_bool, ty_li_int, ty_li_str, ty_li_list, ty_li_tuple, ty_tu_none, ty_tu_bool, ty_tu_int, ty_tu_str, ty_tu_list, ty_tu_tuple, ty_bo_none, ty_bo_bool, ty_bo_int, ty_bo_str, ty_bo_list, ty_bo_tuple, ty_in_none, ty_in_bool, ty_in_int, ty_in_str, ty_in_list, ty_in_tuple, ty_st_none, ty_st_bool, ty_st_int, ty_st_str, ty_st_list, ty_st_tuple, eq_int, ne_int, eq_bl, ne_bl, eq_st, ne_st, eq_li, ne_li, at_0, at_1, at_2, at_3, at_4, at_5, in_li, notin_li, c_z, c_s, gx_v, gx_s, e_mIsX, e_sTry, tc_ok, tc_exc, cm_nil, cm_cons, ex_ok, dx_nil, dx_v, dx_o, dx_x, dx_n, at_exx, Int.cast_ofNat_Int, e_mLrg1, e_mLrg2, d_lrg]
end
theorem Cm_low {p f b : Int} (h0 : 0 ≤ b) (h1 : b < f) (h2 : f ≤ p) : Cm p f b = 0 := by
  unfold Cm
  have : b - f = (b - f + p) + p * (-1) := by omega
  rw [this, Int.add_mul_ediv_left _ _ (by omega), Int.ediv_eq_zero_of_lt (by omega) (by omega)]; rfl
theorem law_wear_loop {p q b : Int} {gs : List Int} (hp : 0 < p) (hp2 : p < 2 ^ 40) (hb : 0 ≤ b) (x0 x4 : Option Cel) : ∀ (r : List Stn) (t : Int) (y7 y8 y9 y10 : Option Cel), (∀ w ∈ r, okW w) → ∃ z7 z8 z9 z10, PV.forM (gT 3 (gC (gN 7) (gC (gN 8) (gC (gN 9) gE)))) l_law_wear_0 (r.map s3) [x0, some (.val (.int q)), some (.val (.int b)), some (.val (.int p)), x4, some (.val (li gs)), some (.val (.int t)), y7, y8, y9, y10] =
    .ok (.nx, [x0, some (.val (.int q)), some (.val (.int b)), some (.val (.int p)), x4, some (.val (li gs)), some (.val (.int (t + We p (its p gs q r) b))), z7, z8, z9, z10])
  | [], t, y7, y8, y9, y10, _ => ⟨y7, y8, y9, y10, by
    have : We p (its p gs q []) b = 0 := rfl
    rw [this, Int.add_zero]; rfl⟩
  | w :: r, t, y7, y8, y9, y10, h => by
    obtain ⟨w1, w2, w3, w4⟩ := h w (List.mem_cons_self ..)
    have hr : ∀ w ∈ r, okW w := fun v hv => h v (List.mem_cons_of_mem _ hv)
    have p0 : p ≠ 0 := by omega
    have dp : divOk p := divOk_s (by omega) (by omega)
    have fo := fi_ok (q := q) w hp
    have e : We p (its p gs q (w :: r)) b = bd gs q w * Cm p (fi p q w) b + We p (its p gs q r) b := by
      unfold We its
      rw [List.map_cons, List.map_cons, List.sum_cons]
    obtain ⟨z7, z8, z9, z10, hz⟩ := law_wear_loop hp hp2 hb x0 x4 r (t + bd gs q w * Cm p (fi p q w) b) (some (.val (.int w.1))) (some (.val (.int w.2.1))) (some (.val (.int w.2.2))) (some (.val (.int (fi p q w)))) hr
    refine ⟨z7, z8, z9, z10, ?_⟩
    rw [e, List.map_cons, forM_cons, e_tg3]
    have e2 : t + (bd gs q w * Cm p (fi p q w) b + We p (its p gs q r) b) = t + bd gs q w * Cm p (fi p q w) b + We p (its p gs q r) b := by omega
    rw [e2]
    have hf : (w.1 - q - 1) % p + 1 = fi p q w := rfl
    by_cases c : fi p q w ≤ b
    · by_cases g : q ∈ gs
      · have eb : bd gs q w = w.2.1 + w.2.2 * 1 := by unfold bd; rw [if_pos g, Int.mul_one]
        have m1 : mulOk w.2.2 1 := mulOk_r (by decide) (by decide)
        have m2 : mulOk ((b - fi p q w) / p + 1) (w.2.1 + w.2.2 * 1) := mulOk_r (by omega) (by omega)
        have e3 : bd gs q w * Cm p (fi p q w) b = ((b - fi p q w) / p + 1) * (w.2.1 + w.2.2 * 1) := by rw [eb, Int.mul_comm]; rfl
        rw [e3] at hz ⊢
        simp (disch := omega) only [u_law_wear_0, p0, dp, hf, c, g, m1, m2, bind_ok, bind_bad, bind_exc, at_ok, at_exc, ofO_some, oS_some, nox_okk, g_v, g_s, go_v, go_s, ga_v, ga_o, ga_s, s_z, s_s, fz_o, fz_v, fz_s, e_mGet, e_mC, e_m2, e_m1, e_mT, e_mB, e_mAndB, e_mOrB, e_mNotB, e_mAnd, e_mOr, e_mIf, e_mChain, e_mNil, e_mCons, e_mSeq, e_mCall, e_mNo, e_mPart, e_mCut, e_mIs, e_mIs2, e_mL, e_mDsp, e_mRep, e_mBind, e_mIxO, e_mBor, e_mBorB, e_mItems, e_mWk, e_mRev, e_mYes, e_mLc, e_gN, e_gE, e_gC, e_gTt, e_gTl, e_sNx, e_sThen, e_sDrop, e_sRet, e_sSet, e_sIf, e_sFor, e_sAsg, e_sPar, e_sSetO, e_sSetL, e_ownAt, e_freeze, e_sApp, e_sSetIx, e_sAugIx, e_sAug, e_sPop, e_sPopTo, e_fnM, e_bo_rt, e_bo_nx, e_bo_exc, e_startE, e_wipe0, e_wipe1, d_add, d_addib, d_addl, d_addt, d_sub, d_mul, d_div, d_mod, d_pow, d_cmp, d_neg, d_not, d_iadd, d_iop, d_toB, d_toI, d_trB, d_trI, d_trN, d_trL, d_trT, d_lenL, d_lenT, d_intI, d_intB, d_abs, d_gcd, d_max2, d_min2, d_sumI, d_anyB, d_allB, d_maxL, d_minL, d_listL, d_listT, d_tupL, d_tupT, d_idxL, d_idxT, d_lstL, d_lstT, d_revL, d_itL, d_itT, d_rng1, d_rng2, d_enum1, d_zip2, d_rev1L, d_rev1T, d_cutL, d_cutT, d_rep, d_mTup, d_mLst, d_setD, d_scN, d_scB, d_scI, d_scS, d_isN, d_isNN, d_nN, d_nB, d_nI, d_nS, d_nL, d_nT, if_true, if_false, ite_true, ite_false, reduceIte, List.length_cons, List.length_nil, Nat.zero_add, Nat.reduceAdd, Nat.reduceSub, Nat.reduceEqDiff, List.map_cons, List.map_nil, List.cons_append, List.nil_append, List.replicate, Option.map_some, Option.bind_some, Option.some.injEq, Bool.not_true, Bool.not_false, ne_eq, Bool.false_eq_true, Int.reduceEq, Int.reduceLT, Int.reduceLE, Int.reduceNeg, Int.reduceAdd, Int.reduceSub, Int.reduceMul, Int.reduceToNat, Int.toNat_natCast, Nat.reduceLT, Nat.reduceLeDiff, not_false_eq_true, not_true_eq_false, decide_true, decide_false, List.length_map, List.map_append, fmod_pos, fdiv_pos, and_true, true_and, and_self, Bool.and_true, Bool.or_false, Bool.and_false, Bool.or_true, Bool.true_and, Bool.false_and, ty_li_none, ty_li_bool, ty_li_int, ty_li_str, ty_li_list, ty_li_tuple, ty_tu_none, ty_tu_bool, ty_tu_int, ty_tu_str, ty_tu_list, ty_tu_tuple, ty_bo_none, ty_bo_bool, ty_bo_int, ty_bo_str, ty_bo_list, ty_bo_tuple, ty_in_none, ty_in_bool, ty_in_int, ty_in_str, ty_in_list, ty_in_tuple, ty_st_none, ty_st_bool, ty_st_int, ty_st_str, ty_st_list, ty_st_tuple, eq_int, ne_int, eq_bl, ne_bl, eq_st, ne_st, eq_li, ne_li, at_0, at_1, at_2, at_3, at_4, at_5, in_li, notin_li, c_z, c_s, gx_v, gx_s, e_mIsX, e_sTry, tc_ok, tc_exc, cm_nil, cm_cons, ex_ok, dx_nil, dx_v, dx_o, dx_x, dx_n, at_exx, Int.cast_ofNat_Int, e_mLrg1, e_mLrg2, d_lrg]
        exact hz
      · have eb : bd gs q w = w.2.1 + w.2.2 * 0 := by unfold bd; rw [if_neg g, Int.mul_zero, Int.add_zero]
        have m1 : mulOk w.2.2 0 := mulOk_r (by decide) (by decide)
        have m2 : mulOk ((b - fi p q w) / p + 1) (w.2.1 + w.2.2 * 0) := mulOk_r (by omega) (by omega)
        have e3 : bd gs q w * Cm p (fi p q w) b = ((b - fi p q w) / p + 1) * (w.2.1 + w.2.2 * 0) := by rw [eb, Int.mul_comm]; rfl
        rw [e3] at hz ⊢
        simp (disch := omega) only [u_law_wear_0, p0, dp, hf, c, g, m1, m2, Bool.false_eq_true, bind_ok, bind_bad, bind_exc, at_ok, at_exc, ofO_some, oS_some, nox_okk, g_v, g_s, go_v, go_s, ga_v, ga_o, ga_s, s_z, s_s, fz_o, fz_v, fz_s, e_mGet, e_mC, e_m2, e_m1, e_mT, e_mB, e_mAndB, e_mOrB, e_mNotB, e_mAnd, e_mOr, e_mIf, e_mChain, e_mNil, e_mCons, e_mSeq, e_mCall, e_mNo, e_mPart, e_mCut, e_mIs, e_mIs2, e_mL, e_mDsp, e_mRep, e_mBind, e_mIxO, e_mBor, e_mBorB, e_mItems, e_mWk, e_mRev, e_mYes, e_mLc, e_gN, e_gE, e_gC, e_gTt, e_gTl, e_sNx, e_sThen, e_sDrop, e_sRet, e_sSet, e_sIf, e_sFor, e_sAsg, e_sPar, e_sSetO, e_sSetL, e_ownAt, e_freeze, e_sApp, e_sSetIx, e_sAugIx, e_sAug, e_sPop, e_sPopTo, e_fnM, e_bo_rt, e_bo_nx, e_bo_exc, e_startE, e_wipe0, e_wipe1, d_add, d_addib, d_addl, d_addt, d_sub, d_mul, d_div, d_mod, d_pow, d_cmp, d_neg, d_not, d_iadd, d_iop, d_toB, d_toI, d_trB, d_trI, d_trN, d_trL, d_trT, d_lenL, d_lenT, d_intI, d_intB, d_abs, d_gcd, d_max2, d_min2, d_sumI, d_anyB, d_allB, d_maxL, d_minL, d_listL, d_listT, d_tupL, d_tupT, d_idxL, d_idxT, d_lstL, d_lstT, d_revL, d_itL, d_itT, d_rng1, d_rng2, d_enum1, d_zip2, d_rev1L, d_rev1T, d_cutL, d_cutT, d_rep, d_mTup, d_mLst, d_setD, d_scN, d_scB, d_scI, d_scS, d_isN, d_isNN, d_nN, d_nB, d_nI, d_nS, d_nL, d_nT, if_true, if_false, ite_true, ite_false, reduceIte, List.length_cons, List.length_nil, Nat.zero_add, Nat.reduceAdd, Nat.reduceSub, Nat.reduceEqDiff, List.map_cons, List.map_nil, List.cons_append, List.nil_append, List.replicate, Option.map_some, Option.bind_some, Option.some.injEq, Bool.not_true, Bool.not_false, ne_eq, Bool.false_eq_true, Int.reduceEq, Int.reduceLT, Int.reduceLE, Int.reduceNeg, Int.reduceAdd, Int.reduceSub, Int.reduceMul, Int.reduceToNat, Int.toNat_natCast, Nat.reduceLT, Nat.reduceLeDiff, not_false_eq_true, not_true_eq_false, decide_true, decide_false, List.length_map, List.map_append, fmod_pos, fdiv_pos, and_true, true_and, and_self, Bool.and_true, Bool.or_false, Bool.and_false, Bool.or_true, Bool.true_and, Bool.false_and, ty_li_none, ty_li_bool, ty_li_int, ty_li_str, ty_li_list, ty_li_tuple, ty_tu_none, ty_tu_bool, ty_tu_int, ty_tu_str, ty_tu_list, ty_tu_tuple, ty_bo_none, ty_bo_bool, ty_bo_int, ty_bo_str, ty_bo_list, ty_bo_tuple, ty_in_none, ty_in_bool, ty_in_int, ty_in_str, ty_in_list, ty_in_tuple, ty_st_none, ty_st_bool, ty_st_int, ty_st_str, ty_st_list, ty_st_tuple, eq_int, ne_int, eq_bl, ne_bl, eq_st, ne_st, eq_li, ne_li, at_0, at_1, at_2, at_3, at_4, at_5, in_li, notin_li, c_z, c_s, gx_v, gx_s, e_mIsX, e_sTry, tc_ok, tc_exc, cm_nil, cm_cons, ex_ok, dx_nil, dx_v, dx_o, dx_x, dx_n, at_exx, Int.cast_ofNat_Int, e_mLrg1, e_mLrg2, d_lrg]
        exact hz
    · have e3 : bd gs q w * Cm p (fi p q w) b = 0 := by rw [Cm_low hb (by omega) fo.2, Int.mul_zero]
      rw [e3, Int.add_zero] at hz ⊢
      simp (disch := omega) only [u_law_wear_0, p0, hf, c, bind_ok, bind_bad, bind_exc, at_ok, at_exc, ofO_some, oS_some, nox_okk, g_v, g_s, go_v, go_s, ga_v, ga_o, ga_s, s_z, s_s, fz_o, fz_v, fz_s, e_mGet, e_mC, e_m2, e_m1, e_mT, e_mB, e_mAndB, e_mOrB, e_mNotB, e_mAnd, e_mOr, e_mIf, e_mChain, e_mNil, e_mCons, e_mSeq, e_mCall, e_mNo, e_mPart, e_mCut, e_mIs, e_mIs2, e_mL, e_mDsp, e_mRep, e_mBind, e_mIxO, e_mBor, e_mBorB, e_mItems, e_mWk, e_mRev, e_mYes, e_mLc, e_gN, e_gE, e_gC, e_gTt, e_gTl, e_sNx, e_sThen, e_sDrop, e_sRet, e_sSet, e_sIf, e_sFor, e_sAsg, e_sPar, e_sSetO, e_sSetL, e_ownAt, e_freeze, e_sApp, e_sSetIx, e_sAugIx, e_sAug, e_sPop, e_sPopTo, e_fnM, e_bo_rt, e_bo_nx, e_bo_exc, e_startE, e_wipe0, e_wipe1, d_add, d_addib, d_addl, d_addt, d_sub, d_mul, d_div, d_mod, d_pow, d_cmp, d_neg, d_not, d_iadd, d_iop, d_toB, d_toI, d_trB, d_trI, d_trN, d_trL, d_trT, d_lenL, d_lenT, d_intI, d_intB, d_abs, d_gcd, d_max2, d_min2, d_sumI, d_anyB, d_allB, d_maxL, d_minL, d_listL, d_listT, d_tupL, d_tupT, d_idxL, d_idxT, d_lstL, d_lstT, d_revL, d_itL, d_itT, d_rng1, d_rng2, d_enum1, d_zip2, d_rev1L, d_rev1T, d_cutL, d_cutT, d_rep, d_mTup, d_mLst, d_setD, d_scN, d_scB, d_scI, d_scS, d_isN, d_isNN, d_nN, d_nB, d_nI, d_nS, d_nL, d_nT, if_true, if_false, ite_true, ite_false, reduceIte, List.length_cons, List.length_nil, Nat.zero_add, Nat.reduceAdd, Nat.reduceSub, Nat.reduceEqDiff, List.map_cons, List.map_nil, List.cons_append, List.nil_append, List.replicate, Option.map_some, Option.bind_some, Option.some.injEq, Bool.not_true, Bool.not_false, ne_eq, Bool.false_eq_true, Int.reduceEq, Int.reduceLT, Int.reduceLE, Int.reduceNeg, Int.reduceAdd, Int.reduceSub, Int.reduceMul, Int.reduceToNat, Int.toNat_natCast, Nat.reduceLT, Nat.reduceLeDiff, not_false_eq_true, not_true_eq_false, decide_true, decide_false, List.length_map, List.map_append, fmod_pos, fdiv_pos, and_true, true_and, and_self, Bool.and_true, Bool.or_false, Bool.and_false, Bool.or_true, Bool.true_and, Bool.false_and, ty_li_none, ty_li_bool, ty_li_int, ty_li_str, ty_li_list, ty_li_tuple, ty_tu_none, ty_tu_bool, ty_tu_int, ty_tu_str, ty_tu_list, ty_tu_tuple, ty_bo_none, ty_bo_bool, ty_bo_int, ty_bo_str, ty_bo_list, ty_bo_tuple, ty_in_none, ty_in_bool, ty_in_int, ty_in_str, ty_in_list, ty_in_tuple, ty_st_none, ty_st_bool, ty_st_int, ty_st_str, ty_st_list, ty_st_tuple, eq_int, ne_int, eq_bl, ne_bl, eq_st, ne_st, eq_li, ne_li, at_0, at_1, at_2, at_3, at_4, at_5, in_li, notin_li, c_z, c_s, gx_v, gx_s, e_mIsX, e_sTry, tc_ok, tc_exc, cm_nil, cm_cons, ex_ok, dx_nil, dx_v, dx_o, dx_x, dx_n, at_exx, Int.cast_ofNat_Int, e_mLrg1, e_mLrg2, d_lrg]
      exact hz
section
variable {p : Int} {ws : List Stn} {gs : List Int} (hp : 0 < p) (hp2 : p < 2 ^ 20) (h0 : 1 ≤ ws.length) (hl : ws.length ≤ 100) (hw : ∀ w ∈ ws, okW w)
include hp hp2 h0 hl hw
theorem law_wear_ok {q b : Int} (hb : 0 ≤ b) : m_law_wear [lo p ws gs, .int q, .int b] = .ok (.int (We p (its p gs q ws) b)) := by
  obtain ⟨z7, z8, z9, z10, hz⟩ := law_wear_loop (gs := gs) (q := q) hp (by omega) hb (some (.val (lo p ws gs))) (some (.val (.list (ws.map s3)))) ws 0 none none none none hw
  rw [Int.zero_add] at hz
  unfold m_law_wear b_law_wear
  rw [fn_go (n := 3) rfl]
  change bodyOut (sThen _ _ [some (.val (lo p ws gs)), some (.val (.int q)), some (.val (.int b)), none, none, none, none, none, none, none, none]) = _
  simp (disch := omega) only [hz, bind_ok, bind_bad, bind_exc, at_ok, at_exc, ofO_some, oS_some, nox_okk, g_v, g_s, go_v, go_s, ga_v, ga_o, ga_s, s_z, s_s, fz_o, fz_v, fz_s, e_mGet, e_mC, e_m2, e_m1, e_mT, e_mB, e_mAndB, e_mOrB, e_mNotB, e_mAnd, e_mOr, e_mIf, e_mChain, e_mNil, e_mCons, e_mSeq, e_mCall, e_mNo, e_mPart, e_mCut, e_mIs, e_mIs2, e_mL, e_mDsp, e_mRep, e_mBind, e_mIxO, e_mBor, e_mBorB, e_mItems, e_mWk, e_mRev, e_mYes, e_mLc, e_gN, e_gE, e_gC, e_gTt, e_gTl, e_sNx, e_sThen, e_sDrop, e_sRet, e_sSet, e_sIf, e_sFor, e_sAsg, e_sPar, e_sSetO, e_sSetL, e_ownAt, e_freeze, e_sApp, e_sSetIx, e_sAugIx, e_sAug, e_sPop, e_sPopTo, e_fnM, e_bo_rt, e_bo_nx, e_bo_exc, e_startE, e_wipe0, e_wipe1, d_add, d_addib, d_addl, d_addt, d_sub, d_mul, d_div, d_mod, d_pow, d_cmp, d_neg, d_not, d_iadd, d_iop, d_toB, d_toI, d_trB, d_trI, d_trN, d_trL, d_trT, d_lenL, d_lenT, d_intI, d_intB, d_abs, d_gcd, d_max2, d_min2, d_sumI, d_anyB, d_allB, d_maxL, d_minL, d_listL, d_listT, d_tupL, d_tupT, d_idxL, d_idxT, d_lstL, d_lstT, d_revL, d_itL, d_itT, d_rng1, d_rng2, d_enum1, d_zip2, d_rev1L, d_rev1T, d_cutL, d_cutT, d_rep, d_mTup, d_mLst, d_setD, d_scN, d_scB, d_scI, d_scS, d_isN, d_isNN, d_nN, d_nB, d_nI, d_nS, d_nL, d_nT, if_true, if_false, ite_true, ite_false, reduceIte, List.length_cons, List.length_nil, Nat.zero_add, Nat.reduceAdd, Nat.reduceSub, Nat.reduceEqDiff, List.map_cons, List.map_nil, List.cons_append, List.nil_append, List.replicate, Option.map_some, Option.bind_some, Option.some.injEq, Bool.not_true, Bool.not_false, ne_eq, Bool.false_eq_true, Int.reduceEq, Int.reduceLT, Int.reduceLE, Int.reduceNeg, Int.reduceAdd, Int.reduceSub, Int.reduceMul, Int.reduceToNat, Int.toNat_natCast, Nat.reduceLT, Nat.reduceLeDiff, not_false_eq_true, not_true_eq_false, decide_true, decide_false, List.length_map, List.map_append, fmod_pos, fdiv_pos, and_true, true_and, and_self, Bool.and_true, Bool.or_false, Bool.and_false, Bool.or_true, Bool.true_and, Bool.false_and, ty_li_none, ty_li_bool, ty_li_int, ty_li_str, ty_li_list, ty_li_tuple, ty_tu_none, ty_tu_bool, ty_tu_int, ty_tu_str, ty_tu_list, ty_tu_tuple, ty_bo_none, ty_bo_bool, ty_bo_int, ty_bo_str, ty_bo_list, ty_bo_tuple, ty_in_none, ty_in_bool, ty_in_int, ty_in_str, ty_in_list, ty_in_tuple, ty_st_none, ty_st_bool, ty_st_int, ty_st_str, ty_st_list, ty_st_tuple, eq_int, ne_int, eq_bl, ne_bl, eq_st, ne_st, eq_li, ne_li, at_0, at_1, at_2, at_3, at_4, at_5, in_li, notin_li, c_z, c_s, gx_v, gx_s, e_mIsX, e_sTry, tc_ok, tc_exc, cm_nil, cm_cons, ex_ok, dx_nil, dx_v, dx_o, dx_x, dx_n, at_exx, Int.cast_ofNat_Int, e_mLrg1, e_mLrg2, d_lrg]
theorem right_ok {most t q : Int} (t1 : 1 ≤ t) (q0 : 0 ≤ q) (qp : q < p) (a1 : most ≤ We p (its p gs q ws) t) (a2 : ∀ r, 0 ≤ r → r < p → We p (its p gs r ws) (t - 1) < most ∧ (r < q → We p (its p gs r ws) t < most)) : m_law_right [lo p ws gs, .int most, pr (t, q)] = .ok (.bool true) := by
  have h2s : 2 ≤ sizeLine := by rw [line_eq]; omega
  have rp : r62 p := r62_s (by omega) (by omega)
  have lk := like_refl 8 (pr (t, q)) ⟨by simp, fun x hx => by
    simp only [List.mem_cons, List.not_mem_nil, or_false] at hx
    rcases hx with rfl | rfl <;> trivial⟩
  have lw := fun (r b : Int) (hb : 0 ≤ b) => law_wear_ok (gs := gs) hp hp2 h0 hl hw (q := r) (b := b) hb
  have n1 : ¬ (t < 1) := by omega
  have n2 : ¬ (q < 0) := by omega
  have n3 : ¬ (p ≤ q) := by omega
  have n4 : ¬ (We p (its p gs q ws) t < most) := by omega
  have n5 := (a2 q q0 qp).1
  have w1 := wear_ok (gs := gs) hp (by omega) hl hw q t
  have w2 := wear_ok (gs := gs) hp (by omega) hl hw q (t - 1)
  obtain ⟨n, hn⟩ : ∃ n : Nat, p = n := ⟨p.toNat, by omega⟩
  have ep : p.toNat = n := by omega
  obtain ⟨ρ', g1, z, g2⟩ := forM_rng (lo := 0) (n := n) (m := gN 5) (body := l_law_right_0) (fun _ ρ => ∃ z, ρ = [some (.val (lo p ws gs)), some (.val (.int most)), some (.val (pr (t, q))), some (.val (.int t)), some (.val (.int q)), z])
    (ρ := [some (.val (lo p ws gs)), some (.val (.int most)), some (.val (pr (t, q))), some (.val (.int t)), some (.val (.int q)), none]) ⟨none, rfl⟩ (by
      rintro i ρ hi ⟨z, rfl⟩
      obtain ⟨c1, c2⟩ := a2 (i : Int) (by omega) (by omega)
      have k1 : ¬ (most ≤ We p (its p gs i ws) (t - 1)) := by omega
      refine ⟨_, [some (.val (lo p ws gs)), some (.val (.int most)), some (.val (pr (t, q))), some (.val (.int t)), some (.val (.int q)), some (.val (.int (0 + i)))], rfl, .inl ?_, _, rfl⟩
      have l1 := lw (i : Int) (t - 1) (by omega)
      have l2 := lw (i : Int) t (by omega)
      by_cases c : (i : Int) < q
      · have k2 : ¬ (most ≤ We p (its p gs i ws) t) := by have := c2 c; omega
        simp (disch := omega) only [u_law_right_0, gN, List.set_cons_succ, List.set_cons_zero, Int.zero_add, l1, l2, k1, k2, c, bind_ok, bind_bad, bind_exc, at_ok, at_exc, ofO_some, oS_some, nox_okk, g_v, g_s, go_v, go_s, ga_v, ga_o, ga_s, s_z, s_s, fz_o, fz_v, fz_s, e_mGet, e_mC, e_m2, e_m1, e_mT, e_mB, e_mAndB, e_mOrB, e_mNotB, e_mAnd, e_mOr, e_mIf, e_mChain, e_mNil, e_mCons, e_mSeq, e_mCall, e_mNo, e_mPart, e_mCut, e_mIs, e_mIs2, e_mL, e_mDsp, e_mRep, e_mBind, e_mIxO, e_mBor, e_mBorB, e_mItems, e_mWk, e_mRev, e_mYes, e_mLc, e_gN, e_gE, e_gC, e_gTt, e_gTl, e_sNx, e_sThen, e_sDrop, e_sRet, e_sSet, e_sIf, e_sFor, e_sAsg, e_sPar, e_sSetO, e_sSetL, e_ownAt, e_freeze, e_sApp, e_sSetIx, e_sAugIx, e_sAug, e_sPop, e_sPopTo, e_fnM, e_bo_rt, e_bo_nx, e_bo_exc, e_startE, e_wipe0, e_wipe1, d_add, d_addib, d_addl, d_addt, d_sub, d_mul, d_div, d_mod, d_pow, d_cmp, d_neg, d_not, d_iadd, d_iop, d_toB, d_toI, d_trB, d_trI, d_trN, d_trL, d_trT, d_lenL, d_lenT, d_intI, d_intB, d_abs, d_gcd, d_max2, d_min2, d_sumI, d_anyB, d_allB, d_maxL, d_minL, d_listL, d_listT, d_tupL, d_tupT, d_idxL, d_idxT, d_lstL, d_lstT, d_revL, d_itL, d_itT, d_rng1, d_rng2, d_enum1, d_zip2, d_rev1L, d_rev1T, d_cutL, d_cutT, d_rep, d_mTup, d_mLst, d_setD, d_scN, d_scB, d_scI, d_scS, d_isN, d_isNN, d_nN, d_nB, d_nI, d_nS, d_nL, d_nT, if_true, if_false, ite_true, ite_false, reduceIte, List.length_cons, List.length_nil, Nat.zero_add, Nat.reduceAdd, Nat.reduceSub, Nat.reduceEqDiff, List.map_cons, List.map_nil, List.cons_append, List.nil_append, List.replicate, Option.map_some, Option.bind_some, Option.some.injEq, Bool.not_true, Bool.not_false, ne_eq, Bool.false_eq_true, Int.reduceEq, Int.reduceLT, Int.reduceLE, Int.reduceNeg, Int.reduceAdd, Int.reduceSub, Int.reduceMul, Int.reduceToNat, Int.toNat_natCast, Nat.reduceLT, Nat.reduceLeDiff, not_false_eq_true, not_true_eq_false, decide_true, decide_false, List.length_map, List.map_append, fmod_pos, fdiv_pos, and_true, true_and, and_self, Bool.and_true, Bool.or_false, Bool.and_false, Bool.or_true, Bool.true_and, Bool.false_and, ty_li_none, ty_li_bool, ty_li_int, ty_li_str, ty_li_list, ty_li_tuple, ty_tu_none, ty_tu_bool, ty_tu_int, ty_tu_str, ty_tu_list, ty_tu_tuple, ty_bo_none, ty_bo_bool, ty_bo_int, ty_bo_str, ty_bo_list, ty_bo_tuple, ty_in_none, ty_in_bool, ty_in_int, ty_in_str, ty_in_list, ty_in_tuple, ty_st_none, ty_st_bool, ty_st_int, ty_st_str, ty_st_list, ty_st_tuple, eq_int, ne_int, eq_bl, ne_bl, eq_st, ne_st, eq_li, ne_li, at_0, at_1, at_2, at_3, at_4, at_5, in_li, notin_li, c_z, c_s, gx_v, gx_s, e_mIsX, e_sTry, tc_ok, tc_exc, cm_nil, cm_cons, ex_ok, dx_nil, dx_v, dx_o, dx_x, dx_n, at_exx, Int.cast_ofNat_Int, e_mLrg1, e_mLrg2, d_lrg]
      · simp (disch := omega) only [u_law_right_0, gN, List.set_cons_succ, List.set_cons_zero, Int.zero_add, l1, k1, c, bind_ok, bind_bad, bind_exc, at_ok, at_exc, ofO_some, oS_some, nox_okk, g_v, g_s, go_v, go_s, ga_v, ga_o, ga_s, s_z, s_s, fz_o, fz_v, fz_s, e_mGet, e_mC, e_m2, e_m1, e_mT, e_mB, e_mAndB, e_mOrB, e_mNotB, e_mAnd, e_mOr, e_mIf, e_mChain, e_mNil, e_mCons, e_mSeq, e_mCall, e_mNo, e_mPart, e_mCut, e_mIs, e_mIs2, e_mL, e_mDsp, e_mRep, e_mBind, e_mIxO, e_mBor, e_mBorB, e_mItems, e_mWk, e_mRev, e_mYes, e_mLc, e_gN, e_gE, e_gC, e_gTt, e_gTl, e_sNx, e_sThen, e_sDrop, e_sRet, e_sSet, e_sIf, e_sFor, e_sAsg, e_sPar, e_sSetO, e_sSetL, e_ownAt, e_freeze, e_sApp, e_sSetIx, e_sAugIx, e_sAug, e_sPop, e_sPopTo, e_fnM, e_bo_rt, e_bo_nx, e_bo_exc, e_startE, e_wipe0, e_wipe1, d_add, d_addib, d_addl, d_addt, d_sub, d_mul, d_div, d_mod, d_pow, d_cmp, d_neg, d_not, d_iadd, d_iop, d_toB, d_toI, d_trB, d_trI, d_trN, d_trL, d_trT, d_lenL, d_lenT, d_intI, d_intB, d_abs, d_gcd, d_max2, d_min2, d_sumI, d_anyB, d_allB, d_maxL, d_minL, d_listL, d_listT, d_tupL, d_tupT, d_idxL, d_idxT, d_lstL, d_lstT, d_revL, d_itL, d_itT, d_rng1, d_rng2, d_enum1, d_zip2, d_rev1L, d_rev1T, d_cutL, d_cutT, d_rep, d_mTup, d_mLst, d_setD, d_scN, d_scB, d_scI, d_scS, d_isN, d_isNN, d_nN, d_nB, d_nI, d_nS, d_nL, d_nT, if_true, if_false, ite_true, ite_false, reduceIte, List.length_cons, List.length_nil, Nat.zero_add, Nat.reduceAdd, Nat.reduceSub, Nat.reduceEqDiff, List.map_cons, List.map_nil, List.cons_append, List.nil_append, List.replicate, Option.map_some, Option.bind_some, Option.some.injEq, Bool.not_true, Bool.not_false, ne_eq, Bool.false_eq_true, Int.reduceEq, Int.reduceLT, Int.reduceLE, Int.reduceNeg, Int.reduceAdd, Int.reduceSub, Int.reduceMul, Int.reduceToNat, Int.toNat_natCast, Nat.reduceLT, Nat.reduceLeDiff, not_false_eq_true, not_true_eq_false, decide_true, decide_false, List.length_map, List.map_append, fmod_pos, fdiv_pos, and_true, true_and, and_self, Bool.and_true, Bool.or_false, Bool.and_false, Bool.or_true, Bool.true_and, Bool.false_and, ty_li_none, ty_li_bool, ty_li_int, ty_li_str, ty_li_list, ty_li_tuple, ty_tu_none, ty_tu_bool, ty_tu_int, ty_tu_str, ty_tu_list, ty_tu_tuple, ty_bo_none, ty_bo_bool, ty_bo_int, ty_bo_str, ty_bo_list, ty_bo_tuple, ty_in_none, ty_in_bool, ty_in_int, ty_in_str, ty_in_list, ty_in_tuple, ty_st_none, ty_st_bool, ty_st_int, ty_st_str, ty_st_list, ty_st_tuple, eq_int, ne_int, eq_bl, ne_bl, eq_st, ne_st, eq_li, ne_li, at_0, at_1, at_2, at_3, at_4, at_5, in_li, notin_li, c_z, c_s, gx_v, gx_s, e_mIsX, e_sTry, tc_ok, tc_exc, cm_nil, cm_cons, ex_ok, dx_nil, dx_v, dx_o, dx_x, dx_n, at_exx, Int.cast_ofNat_Int, e_mLrg1, e_mLrg2, d_lrg])
  subst g2
  unfold m_law_right b_law_right
  rw [fn_go (n := 3) rfl]
  change bodyOut (sThen _ _ [some (.val (lo p ws gs)), some (.val (.int most)), some (.val (pr (t, q))), none, none, none]) = _
  have lq := lw q t (by omega)
  simp (disch := omega) only [h2s, lk, n1, n2, n3, n4, lq, rp, ep, g1, w1, w2, a1, n5, bind_ok, bind_bad, bind_exc, at_ok, at_exc, ofO_some, oS_some, nox_okk, g_v, g_s, go_v, go_s, ga_v, ga_o, ga_s, s_z, s_s, fz_o, fz_v, fz_s, e_mGet, e_mC, e_m2, e_m1, e_mT, e_mB, e_mAndB, e_mOrB, e_mNotB, e_mAnd, e_mOr, e_mIf, e_mChain, e_mNil, e_mCons, e_mSeq, e_mCall, e_mNo, e_mPart, e_mCut, e_mIs, e_mIs2, e_mL, e_mDsp, e_mRep, e_mBind, e_mIxO, e_mBor, e_mBorB, e_mItems, e_mWk, e_mRev, e_mYes, e_mLc, e_gN, e_gE, e_gC, e_gTt, e_gTl, e_sNx, e_sThen, e_sDrop, e_sRet, e_sSet, e_sIf, e_sFor, e_sAsg, e_sPar, e_sSetO, e_sSetL, e_ownAt, e_freeze, e_sApp, e_sSetIx, e_sAugIx, e_sAug, e_sPop, e_sPopTo, e_fnM, e_bo_rt, e_bo_nx, e_bo_exc, e_startE, e_wipe0, e_wipe1, d_add, d_addib, d_addl, d_addt, d_sub, d_mul, d_div, d_mod, d_pow, d_cmp, d_neg, d_not, d_iadd, d_iop, d_toB, d_toI, d_trB, d_trI, d_trN, d_trL, d_trT, d_lenL, d_lenT, d_intI, d_intB, d_abs, d_gcd, d_max2, d_min2, d_sumI, d_anyB, d_allB, d_maxL, d_minL, d_listL, d_listT, d_tupL, d_tupT, d_idxL, d_idxT, d_lstL, d_lstT, d_revL, d_itL, d_itT, d_rng1, d_rng2, d_enum1, d_zip2, d_rev1L, d_rev1T, d_cutL, d_cutT, d_rep, d_mTup, d_mLst, d_setD, d_scN, d_scB, d_scI, d_scS, d_isN, d_isNN, d_nN, d_nB, d_nI, d_nS, d_nL, d_nT, if_true, if_false, ite_true, ite_false, reduceIte, List.length_cons, List.length_nil, Nat.zero_add, Nat.reduceAdd, Nat.reduceSub, Nat.reduceEqDiff, List.map_cons, List.map_nil, List.cons_append, List.nil_append, List.replicate, Option.map_some, Option.bind_some, Option.some.injEq, Bool.not_true, Bool.not_false, ne_eq, Bool.false_eq_true, Int.reduceEq, Int.reduceLT, Int.reduceLE, Int.reduceNeg, Int.reduceAdd, Int.reduceSub, Int.reduceMul, Int.reduceToNat, Int.toNat_natCast, Nat.reduceLT, Nat.reduceLeDiff, not_false_eq_true, not_true_eq_false, decide_true, decide_false, List.length_map, List.map_append, fmod_pos, fdiv_pos, and_true, true_and, and_self, Bool.and_true, Bool.or_false, Bool.and_false, Bool.or_true, Bool.true_and, Bool.false_and, ty_li_none, ty_li_bool, ty_li_int, ty_li_str, ty_li_list, ty_li_tuple, ty_tu_none, ty_tu_bool, ty_tu_int, ty_tu_str, ty_tu_list, ty_tu_tuple, ty_bo_none, ty_bo_bool, ty_bo_int, ty_bo_str, ty_bo_list, ty_bo_tuple, ty_in_none, ty_in_bool, ty_in_int, ty_in_str, ty_in_list, ty_in_tuple, ty_st_none, ty_st_bool, ty_st_int, ty_st_str, ty_st_list, ty_st_tuple, eq_int, ne_int, eq_bl, ne_bl, eq_st, ne_st, eq_li, ne_li, at_0, at_1, at_2, at_3, at_4, at_5, in_li, notin_li, c_z, c_s, gx_v, gx_s, e_mIsX, e_sTry, tc_ok, tc_exc, cm_nil, cm_cons, ex_ok, dx_nil, dx_v, dx_o, dx_x, dx_n, at_exx, Int.cast_ofNat_Int, e_mLrg1, e_mLrg2, d_lrg]
/-- the first worn piece is right -/
theorem first_right (most : Int) (hm : 1 ≤ most) : ∃ t q : Int, m_first_worn [lo p ws gs, .int most] = .ok (pr (t, q)) ∧ m_law_right [lo p ws gs, .int most, pr (t, q)] = .ok (.bool true) ∧ 0 ≤ q ∧ q < p ∧ t = Wn p most (its p gs q ws) ∧ ∀ r, 0 ≤ r → r < p → leP (t, q) (Wn p most (its p gs r ws), r) = true := by
  obtain ⟨t, q, h1, h2, h3, h4, h5⟩ := first_ok (gs := gs) hp (by omega) h0 hl hw most hp2
  refine ⟨t, q, h1, ?_, h2, h3, h4, h5⟩
  have key : ∀ r, most ≤ We p (its p gs r ws) (Wn p most (its p gs r ws)) ∧ We p (its p gs r ws) (Wn p most (its p gs r ws) - 1) < most ∧ 1 ≤ Wn p most (its p gs r ws) := fun r => by
    obtain ⟨o1, o2⟩ := its_ok (gs := gs) (q := r) hp hw
    have := Tw_its (gs := gs) hp (by omega) h0 hl hw r
    exact Wn_ok hp o1 (fun x hx => (o2 x hx).1) (by omega) hm
  obtain ⟨k1, k2, k3⟩ := key q
  rw [← h4] at k1 k2 k3
  refine right_ok hp hp2 h0 hl hw k3 h2 h3 k1 fun r r0 r1 => ?_
  obtain ⟨m1, m2, m3⟩ := key r
  have hle := (leP_iff _ _).mp (h5 r r0 r1)
  have pos : ∀ x ∈ its p gs r ws, 0 ≤ x.2 := fun x hx => by have := (its_ok (gs := gs) (q := r) hp hw).2 x hx; omega
  simp only at hle
  have mono1 := We_mono (p := p) (b := t - 1) (c := Wn p most (its p gs r ws) - 1) hp (by omega) pos
  refine ⟨by omega, fun hr => ?_⟩
  have mono2 := We_mono (p := p) (b := t) (c := Wn p most (its p gs r ws) - 1) hp (by omega) pos
  omega
end
theorem We_cons (p b : Int) (x : Int × Int) (l : List (Int × Int)) : We p (x :: l) b = x.2 * Cm p x.1 b + We p l b := by unfold We; rw [List.map_cons, List.sum_cons]
theorem Cm_nonneg {p f b : Int} (hp : 0 < p) (h0 : 0 ≤ b) (h2 : f ≤ p) : 0 ≤ Cm p f b := by
  have h := Cm_mono (p := p) (f := f) (b := f - p) (c := b) hp (by omega)
  have e : Cm p f (f - p) = 0 := by
    unfold Cm
    have : f - p - f = 0 + p * (-1) := by omega
    rw [this, Int.add_mul_ediv_left _ _ (by omega)]; simp
  omega
theorem We_le {p q b : Int} {gs gs' : List Int} {g : Stn → Stn} (hp : 0 < p) (h0 : 0 ≤ b) : ∀ {ws : List Stn}, (∀ w ∈ ws, (g w).1 = w.1 ∧ bd gs q w ≤ bd gs' q (g w)) → We p (its p gs q ws) b ≤ We p (its p gs' q (ws.map g)) b
  | [], _ => Int.le_refl _
  | w :: r, h => by
    have ih := We_le hp h0 (ws := r) (fun v hv => h v (List.mem_cons_of_mem _ hv))
    obtain ⟨a1, a2⟩ := h w (List.mem_cons_self ..)
    have e1 : its p gs q (w :: r) = (fi p q w, bd gs q w) :: its p gs q r := rfl
    have e2 : its p gs' q ((w :: r).map g) = (fi p q (g w), bd gs' q (g w)) :: its p gs' q (r.map g) := rfl
    have ef : fi p q (g w) = fi p q w := by unfold fi; rw [a1]
    rw [e1, e2, We_cons, We_cons, ef]
    have := Int.mul_le_mul_of_nonneg_right a2 (Cm_nonneg (f := fi p q w) hp h0 (fi_ok w hp).2)
    simp only
    omega
theorem runW_shift (base c : Int) : ∀ (r : List (Int × Int)) (l fd : Int), runW (base + c) r l (fd + c) = runW base r l fd + c
  | [], _, _ => rfl
  | (f, b) :: r, l, fd => by
    unfold runW
    by_cases h : l > 0
    · rw [if_pos h, if_pos h]
      have e : base + c + f = base + f + c := by omega
      rw [e]
      exact runW_shift base c r (l - b) (base + f)
    · rw [if_neg h, if_neg h]
      exact runW_shift base c r l fd
theorem Wn_shift {p most many : Int} {l : List (Int × Int)} (hT : 0 < Tw l) : Wn p (most + many * Tw l) l = Wn p most l + many * p := by
  unfold Wn
  have e : most + many * Tw l - 1 = (most - 1) + Tw l * many := by rw [Int.mul_comm]; omega
  rw [e, Int.add_mul_ediv_left _ _ (by omega)]
  have e2 : ((most - 1) / Tw l + many) * p = (most - 1) / Tw l * p + many * p := Int.add_mul _ _ _
  have e3 : most + many * Tw l - ((most - 1) / Tw l + many) * Tw l = most - (most - 1) / Tw l * Tw l := by rw [Int.add_mul]; omega
  rw [e2, e3, runW_shift]
/-- where the first worn piece is not later -/
theorem not_later {p m1 m2 t1 t2 q1 q2 : Int} {f g : Int → List (Int × Int)} (hp : 0 < p) (q0 : 0 ≤ q1) (qp : q1 < p) (pos : ∀ x ∈ g q1, 0 ≤ x.2)
    (a1 : m2 ≤ We p (g q1) t1) (b1 : We p (g q1) (Wn p m2 (g q1) - 1) < m2) (hmin : ∀ r, 0 ≤ r → r < p → leP (t2, q2) (Wn p m2 (g r), r) = true) : t2 ≤ t1 := by
  have h := (leP_iff _ _).mp (hmin q1 q0 qp)
  simp only at h
  by_cases c : Wn p m2 (g q1) ≤ t1
  · omega
  · have := We_mono (p := p) (b := t1) (c := Wn p m2 (g q1) - 1) hp (by omega) pos
    omega
theorem at3 {P : Int → Prop} {x y z i : Int} (h0 : 0 ≤ i) (h3 : i < 3) (hx : P x) (hy : P y) (hz : P z) : ∃ t, L2.atI [PyData.int x, .int y, .int z] i = some (.int t) ∧ P t := by
  have : i = 0 ∨ i = 1 ∨ i = 2 := by omega
  rcases this with e | e | e <;> subst e
  · exact ⟨x, at_0 _ _, hx⟩
  · exact ⟨y, at_1 _ _ _, hy⟩
  · exact ⟨z, at_2 _ _ _ _, hz⟩
theorem at4 {P : Int → Prop} {x y z u i : Int} (h0 : 0 ≤ i) (h3 : i < 4) (hx : P x) (hy : P y) (hz : P z) (hu : P u) : ∃ t, L2.atI [PyData.int x, .int y, .int z, .int u] i = some (.int t) ∧ P t := by
  have : i = 0 ∨ i = 1 ∨ i = 2 ∨ i = 3 := by omega
  rcases this with e | e | e | e <;> subst e
  · exact ⟨x, at_0 _ _, hx⟩
  · exact ⟨y, at_1 _ _ _, hy⟩
  · exact ⟨z, at_2 _ _ _ _, hz⟩
  · exact ⟨u, at_3 _ _ _ _ _, hu⟩
theorem at_lin {ds : List Int} {i : Int} {k : Nat} (e : i = k) (h : k < ds.length) : L2.atI (ds.map PyData.int) i = some (.int (ds.getD k 0)) := by subst e; exact atI_liN h
theorem loop_ok (ns : List Int) {M : Int} (hM : 2 ≤ M) (hM2 : M ≤ 500) : ∃ (p : Int) (ws : List Stn) (gs : List Int), m_law_loop [li ns, .int 1, .int M] = .ok (lo p ws gs) ∧ 2 ≤ p ∧ p ≤ 500 ∧ 1 ≤ ws.length ∧ ws.length ≤ 6 ∧ (∀ w ∈ ws, 1 ≤ w.2.1 ∧ w.2.1 ≤ 1000 ∧ 0 ≤ w.2.2 ∧ w.2.2 ≤ 100) ∧ gs.length ≤ 500 := by
  obtain ⟨ds, hd, hlen, hb⟩ := draws_ok ns 1 60 (by decide) (by decide)
  have hd : m_law_draws [li ns, .int 1, .int 60] = .ok (li ds) := hd
  have h0s : (0 : Nat) ≤ sizeLine := Nat.zero_le _
  have h3s : 3 ≤ sizeLine := by rw [line_eq]; omega
  have m0 : M - 1 ≠ 0 := by omega
  have q0 := Int.emod_nonneg (ds.getD 0 0) m0
  have q1 := Int.emod_lt_of_pos (ds.getD 0 0) (show 0 < M - 1 by omega)
  obtain ⟨p, hp, p2, p5⟩ : ∃ p, 2 + ds.getD 0 0 % (M - 1) = p ∧ 2 ≤ p ∧ p ≤ 500 := ⟨_, rfl, by omega, by omega⟩
  have pp : 0 < p := by omega
  have p0 : p ≠ 0 := by omega
  have rp : r62 p := r62_s (by omega) (by omega)
  have hlp : (rangeL 0 p.toNat).length ≤ sizeLine := by rw [rangeL_len, line_eq]; omega
  obtain ⟨n, hn, n1, n6⟩ : ∃ n : Nat, 1 + ds.getD 2 0 % 6 = n ∧ 1 ≤ n ∧ n ≤ 6 := ⟨(1 + ds.getD 2 0 % 6).toNat, by omega, by omega, by omega⟩
  have hn62 : r62 (n : Int) := r62_s (by omega) (by omega)
  have c0 := Int.emod_nonneg (ds.getD 1 0) p0
  have c1 := Int.emod_lt_of_pos (ds.getD 1 0) pp
  obtain ⟨bb, hbb, hbb0⟩ := at3 (P := fun t => 1 ≤ t ∧ t ≤ 900) (x := 1) (y := 3) (z := 900) (i := ds.getD 15 0 % 3) (by omega) (by omega) (by decide) (by decide) (by decide)
  obtain ⟨mm, hmm, hmm0⟩ := at3 (P := fun t => 1 ≤ t ∧ t ≤ 50) (x := 1) (y := 4) (z := 50) (i := ds.getD 16 0 % 3) (by omega) (by omega) (by decide) (by decide) (by decide)
  obtain ⟨gg, hgg, hgg0⟩ := at3 (P := fun t => 1 ≤ t ∧ t ≤ 40) (x := 2) (y := 5) (z := 40) (i := ds.getD 18 0 % 3) (by omega) (by omega) (by decide) (by decide) (by decide)
  have bb0 : bb ≠ 0 := by omega
  have mm0 : mm ≠ 0 := by omega
  have gg0 : gg ≠ 0 := by omega
  have d3 : divOk 3 := divOk_s (by decide) (by decide)
  obtain ⟨ρ', g1, ws, pl, y7, g2, g3, g4, g5⟩ := forM_rng (lo := 0) (n := n) (m := gN 7) (body := l_law_loop_0)
    (fun i ρ => ∃ (ws : List Stn) (pl : Int) (y7 : Option Cel), ρ = [some (.val (li ns)), some (.val (.int 1)), some (.val (.int M)), some (.val (li ds)), some (.val (.int p)), some (.own (ws.map s3)), some (.val (.int pl)), y7, none, none] ∧ ws.length ≤ i ∧ (1 ≤ i → 1 ≤ ws.length) ∧ (i = 0 → pl < p) ∧ (∀ w ∈ ws, 1 ≤ w.2.1 ∧ w.2.1 ≤ 1000 ∧ 0 ≤ w.2.2 ∧ w.2.2 ≤ 100))
    (ρ := [some (.val (li ns)), some (.val (.int 1)), some (.val (.int M)), some (.val (li ds)), some (.val (.int p)), some (.own []), some (.val (.int (ds.getD 1 0 % p))), none, none, none]) ⟨[], _, none, rfl, Nat.le_refl _, by omega, fun _ => c1, fun w hw => nomatch hw⟩ (by
      rintro i ρ hi ⟨ws, pl, y7, rfl, k1, k2, k3, k4⟩
      have e1 := at_lin (ds := ds) (i := 3 + 2 * (i : Int)) (k := 3 + 2 * i) (by omega) (by omega)
      have e2 := at_lin (ds := ds) (i := 4 + 2 * (i : Int)) (k := 4 + 2 * i) (by omega) (by omega)
      have e3 := at_lin (ds := ds) (i := 17 + (i : Int)) (k := 17 + i) (by omega) (by omega)
      have mi : mulOk 2 (i : Int) := mulOk_l (by decide) (by decide)
      have u0 := Int.emod_nonneg (ds.getD (3 + 2 * i) 0) bb0
      have u1 := Int.emod_lt_of_pos (ds.getD (3 + 2 * i) 0) (show 0 < bb by omega)
      have v0 := Int.emod_nonneg (ds.getD (4 + 2 * i) 0) mm0
      have v1 := Int.emod_lt_of_pos (ds.getD (4 + 2 * i) 0) (show 0 < mm by omega)
      have l20 : (ws.length : Int) < 20 := by omega
      have hsl : ws.length < sizeLine := by rw [line_eq]; omega
      obtain ⟨st, hst, st1⟩ : ∃ st, (if p / 3 > 1 then p / 3 else 1) = st ∧ st ≠ 0 := ⟨_, rfl, by split <;> omega⟩
      by_cases c : pl < p
      · refine ⟨_, [some (.val (li ns)), some (.val (.int 1)), some (.val (.int M)), some (.val (li ds)), some (.val (.int p)), some (.own ((ws ++ [(pl, 1 + ds.getD (3 + 2 * i) 0 % bb, ds.getD (4 + 2 * i) 0 % mm)]).map s3)), some (.val (.int (pl + 1 + (ds.getD (17 + i) 0).fmod st))), some (.val (.int (0 + i))), none, none], rfl, .inl ?_, _, _, _, rfl, by rw [List.length_append]; simp only [List.length_cons, List.length_nil]; omega, fun _ => by rw [List.length_append]; simp only [List.length_cons, List.length_nil]; omega, by omega, fun w hw => ?_⟩
        · simp (disch := omega) only [u_law_loop_0, gN, List.set_cons_succ, List.set_cons_zero, Int.zero_add, c, l20, mi, e1, e2, e3, atI_li, hlen, h3s, hbb, hmm, bb0, mm0, d3, hst, st1, hsl, bind_ok, bind_bad, bind_exc, at_ok, at_exc, ofO_some, oS_some, nox_okk, g_v, g_s, go_v, go_s, ga_v, ga_o, ga_s, s_z, s_s, fz_o, fz_v, fz_s, e_mGet, e_mC, e_m2, e_m1, e_mT, e_mB, e_mAndB, e_mOrB, e_mNotB, e_mAnd, e_mOr, e_mIf, e_mChain, e_mNil, e_mCons, e_mSeq, e_mCall, e_mNo, e_mPart, e_mCut, e_mIs, e_mIs2, e_mL, e_mDsp, e_mRep, e_mBind, e_mIxO, e_mBor, e_mBorB, e_mItems, e_mWk, e_mRev, e_mYes, e_mLc, e_gN, e_gE, e_gC, e_gTt, e_gTl, e_sNx, e_sThen, e_sDrop, e_sRet, e_sSet, e_sIf, e_sFor, e_sAsg, e_sPar, e_sSetO, e_sSetL, e_ownAt, e_freeze, e_sApp, e_sSetIx, e_sAugIx, e_sAug, e_sPop, e_sPopTo, e_fnM, e_bo_rt, e_bo_nx, e_bo_exc, e_startE, e_wipe0, e_wipe1, d_add, d_addib, d_addl, d_addt, d_sub, d_mul, d_div, d_mod, d_pow, d_cmp, d_neg, d_not, d_iadd, d_iop, d_toB, d_toI, d_trB, d_trI, d_trN, d_trL, d_trT, d_lenL, d_lenT, d_intI, d_intB, d_abs, d_gcd, d_max2, d_min2, d_sumI, d_anyB, d_allB, d_maxL, d_minL, d_listL, d_listT, d_tupL, d_tupT, d_idxL, d_idxT, d_lstL, d_lstT, d_revL, d_itL, d_itT, d_rng1, d_rng2, d_enum1, d_zip2, d_rev1L, d_rev1T, d_cutL, d_cutT, d_rep, d_mTup, d_mLst, d_setD, d_scN, d_scB, d_scI, d_scS, d_isN, d_isNN, d_nN, d_nB, d_nI, d_nS, d_nL, d_nT, if_true, if_false, ite_true, ite_false, reduceIte, List.length_cons, List.length_nil, Nat.zero_add, Nat.reduceAdd, Nat.reduceSub, Nat.reduceEqDiff, List.map_cons, List.map_nil, List.cons_append, List.nil_append, List.replicate, Option.map_some, Option.bind_some, Option.some.injEq, Bool.not_true, Bool.not_false, ne_eq, Bool.false_eq_true, Int.reduceEq, Int.reduceLT, Int.reduceLE, Int.reduceNeg, Int.reduceAdd, Int.reduceSub, Int.reduceMul, Int.reduceToNat, Int.toNat_natCast, Nat.reduceLT, Nat.reduceLeDiff, not_false_eq_true, not_true_eq_false, decide_true, decide_false, List.length_map, List.map_append, fmod_pos, fdiv_pos, and_true, true_and, and_self, Bool.and_true, Bool.or_false, Bool.and_false, Bool.or_true, Bool.true_and, Bool.false_and, ty_li_none, ty_li_bool, ty_li_int, ty_li_str, ty_li_list, ty_li_tuple, ty_tu_none, ty_tu_bool, ty_tu_int, ty_tu_str, ty_tu_list, ty_tu_tuple, ty_bo_none, ty_bo_bool, ty_bo_int, ty_bo_str, ty_bo_list, ty_bo_tuple, ty_in_none, ty_in_bool, ty_in_int, ty_in_str, ty_in_list, ty_in_tuple, ty_st_none, ty_st_bool, ty_st_int, ty_st_str, ty_st_list, ty_st_tuple, eq_int, ne_int, eq_bl, ne_bl, eq_st, ne_st, eq_li, ne_li, at_0, at_1, at_2, at_3, at_4, at_5, in_li, notin_li, c_z, c_s, gx_v, gx_s, e_mIsX, e_sTry, tc_ok, tc_exc, cm_nil, cm_cons, ex_ok, dx_nil, dx_v, dx_o, dx_x, dx_n, at_exx, Int.cast_ofNat_Int, e_mLrg1, e_mLrg2, d_lrg]
        · rcases List.mem_append.mp hw with hw | hw
          · exact k4 w hw
          · rw [List.mem_singleton] at hw
            subst hw
            refine ⟨?_, ?_, ?_, ?_⟩ <;> simp only <;> omega
      · refine ⟨_, [some (.val (li ns)), some (.val (.int 1)), some (.val (.int M)), some (.val (li ds)), some (.val (.int p)), some (.own (ws.map s3)), some (.val (.int pl)), some (.val (.int (0 + i))), none, none], rfl, .inl ?_, _, _, _, rfl, by omega, fun _ => k2 (by
          by_cases z : i = 0
          · exact absurd (k3 z) c
          · omega), by omega, k4⟩
        simp (disch := omega) only [u_law_loop_0, gN, List.set_cons_succ, List.set_cons_zero, c, bind_ok, bind_bad, bind_exc, at_ok, at_exc, ofO_some, oS_some, nox_okk, g_v, g_s, go_v, go_s, ga_v, ga_o, ga_s, s_z, s_s, fz_o, fz_v, fz_s, e_mGet, e_mC, e_m2, e_m1, e_mT, e_mB, e_mAndB, e_mOrB, e_mNotB, e_mAnd, e_mOr, e_mIf, e_mChain, e_mNil, e_mCons, e_mSeq, e_mCall, e_mNo, e_mPart, e_mCut, e_mIs, e_mIs2, e_mL, e_mDsp, e_mRep, e_mBind, e_mIxO, e_mBor, e_mBorB, e_mItems, e_mWk, e_mRev, e_mYes, e_mLc, e_gN, e_gE, e_gC, e_gTt, e_gTl, e_sNx, e_sThen, e_sDrop, e_sRet, e_sSet, e_sIf, e_sFor, e_sAsg, e_sPar, e_sSetO, e_sSetL, e_ownAt, e_freeze, e_sApp, e_sSetIx, e_sAugIx, e_sAug, e_sPop, e_sPopTo, e_fnM, e_bo_rt, e_bo_nx, e_bo_exc, e_startE, e_wipe0, e_wipe1, d_add, d_addib, d_addl, d_addt, d_sub, d_mul, d_div, d_mod, d_pow, d_cmp, d_neg, d_not, d_iadd, d_iop, d_toB, d_toI, d_trB, d_trI, d_trN, d_trL, d_trT, d_lenL, d_lenT, d_intI, d_intB, d_abs, d_gcd, d_max2, d_min2, d_sumI, d_anyB, d_allB, d_maxL, d_minL, d_listL, d_listT, d_tupL, d_tupT, d_idxL, d_idxT, d_lstL, d_lstT, d_revL, d_itL, d_itT, d_rng1, d_rng2, d_enum1, d_zip2, d_rev1L, d_rev1T, d_cutL, d_cutT, d_rep, d_mTup, d_mLst, d_setD, d_scN, d_scB, d_scI, d_scS, d_isN, d_isNN, d_nN, d_nB, d_nI, d_nS, d_nL, d_nT, if_true, if_false, ite_true, ite_false, reduceIte, List.length_cons, List.length_nil, Nat.zero_add, Nat.reduceAdd, Nat.reduceSub, Nat.reduceEqDiff, List.map_cons, List.map_nil, List.cons_append, List.nil_append, List.replicate, Option.map_some, Option.bind_some, Option.some.injEq, Bool.not_true, Bool.not_false, ne_eq, Bool.false_eq_true, Int.reduceEq, Int.reduceLT, Int.reduceLE, Int.reduceNeg, Int.reduceAdd, Int.reduceSub, Int.reduceMul, Int.reduceToNat, Int.toNat_natCast, Nat.reduceLT, Nat.reduceLeDiff, not_false_eq_true, not_true_eq_false, decide_true, decide_false, List.length_map, List.map_append, fmod_pos, fdiv_pos, and_true, true_and, and_self, Bool.and_true, Bool.or_false, Bool.and_false, Bool.or_true, Bool.true_and, Bool.false_and, ty_li_none, ty_li_bool, ty_li_int, ty_li_str, ty_li_list, ty_li_tuple, ty_tu_none, ty_tu_bool, ty_tu_int, ty_tu_str, ty_tu_list, ty_tu_tuple, ty_bo_none, ty_bo_bool, ty_bo_int, ty_bo_str, ty_bo_list, ty_bo_tuple, ty_in_none, ty_in_bool, ty_in_int, ty_in_str, ty_in_list, ty_in_tuple, ty_st_none, ty_st_bool, ty_st_int, ty_st_str, ty_st_list, ty_st_tuple, eq_int, ne_int, eq_bl, ne_bl, eq_st, ne_st, eq_li, ne_li, at_0, at_1, at_2, at_3, at_4, at_5, in_li, notin_li, c_z, c_s, gx_v, gx_s, e_mIsX, e_sTry, tc_ok, tc_exc, cm_nil, cm_cons, ex_ok, dx_nil, dx_v, dx_o, dx_x, dx_n, at_exx, Int.cast_ofNat_Int, e_mLrg1, e_mLrg2, d_lrg])
  obtain ⟨gs, hgs, hgl⟩ : ∃ gs : List Int, lcM (gN 9) (mB (m2 pEq (m2 pMod (m2 pIdx (mGet 3) (m2 pAdd (mC (.int 24)) (m2 pMod (mGet 9) (mC (.int 36))))) (m2 pIdx (mSeq mLst (mCons (mC (.int 2)) (mCons (mC (.int 5)) (mCons (mC (.int 40)) mNil)))) (m2 pMod (m2 pIdx (mGet 3) (mC (.int 18))) (mC (.int 3))))) (mC (.int 0)))) (mGet 9) [some (.val (li ns)), some (.val (.int 1)), some (.val (.int M)), some (.val (li ds)), some (.val (.int p)), some (.own (ws.map s3)), some (.val (.int pl)), y7, none, none] (rangeL 0 p.toNat) = .ok (gs.map .int) ∧ gs.length ≤ 500 := by
    refine ⟨((List.range p.toNat).filter fun (k : Nat) => decide (ds.getD (24 + k % 36) 0 % gg = 0)).map fun (k : Nat) => (k : Int), ?_, ?_⟩
    · rw [lcM_rngpI (fun (k : Nat) => decide (ds.getD (24 + k % 36) 0 % gg = 0)) (fun (k : Nat) => (k : Int))]
      · intro k hk
        have e := at_lin (ds := ds) (i := 24 + (k : Int) % 36) (k := 24 + k % 36) (by omega) (by omega)
        simp (disch := omega) only [e, atI_li, hlen, h3s, hgg, gg0, bind_ok, bind_bad, bind_exc, at_ok, at_exc, ofO_some, oS_some, nox_okk, g_v, g_s, go_v, go_s, ga_v, ga_o, ga_s, s_z, s_s, fz_o, fz_v, fz_s, e_mGet, e_mC, e_m2, e_m1, e_mT, e_mB, e_mAndB, e_mOrB, e_mNotB, e_mAnd, e_mOr, e_mIf, e_mChain, e_mNil, e_mCons, e_mSeq, e_mCall, e_mNo, e_mPart, e_mCut, e_mIs, e_mIs2, e_mL, e_mDsp, e_mRep, e_mBind, e_mIxO, e_mBor, e_mBorB, e_mItems, e_mWk, e_mRev, e_mYes, e_mLc, e_gN, e_gE, e_gC, e_gTt, e_gTl, e_sNx, e_sThen, e_sDrop, e_sRet, e_sSet, e_sIf, e_sFor, e_sAsg, e_sPar, e_sSetO, e_sSetL, e_ownAt, e_freeze, e_sApp, e_sSetIx, e_sAugIx, e_sAug, e_sPop, e_sPopTo, e_fnM, e_bo_rt, e_bo_nx, e_bo_exc, e_startE, e_wipe0, e_wipe1, d_add, d_addib, d_addl, d_addt, d_sub, d_mul, d_div, d_mod, d_pow, d_cmp, d_neg, d_not, d_iadd, d_iop, d_toB, d_toI, d_trB, d_trI, d_trN, d_trL, d_trT, d_lenL, d_lenT, d_intI, d_intB, d_abs, d_gcd, d_max2, d_min2, d_sumI, d_anyB, d_allB, d_maxL, d_minL, d_listL, d_listT, d_tupL, d_tupT, d_idxL, d_idxT, d_lstL, d_lstT, d_revL, d_itL, d_itT, d_rng1, d_rng2, d_enum1, d_zip2, d_rev1L, d_rev1T, d_cutL, d_cutT, d_rep, d_mTup, d_mLst, d_setD, d_scN, d_scB, d_scI, d_scS, d_isN, d_isNN, d_nN, d_nB, d_nI, d_nS, d_nL, d_nT, if_true, if_false, ite_true, ite_false, reduceIte, List.length_cons, List.length_nil, Nat.zero_add, Nat.reduceAdd, Nat.reduceSub, Nat.reduceEqDiff, List.map_cons, List.map_nil, List.cons_append, List.nil_append, List.replicate, Option.map_some, Option.bind_some, Option.some.injEq, Bool.not_true, Bool.not_false, ne_eq, Bool.false_eq_true, Int.reduceEq, Int.reduceLT, Int.reduceLE, Int.reduceNeg, Int.reduceAdd, Int.reduceSub, Int.reduceMul, Int.reduceToNat, Int.toNat_natCast, Nat.reduceLT, Nat.reduceLeDiff, not_false_eq_true, not_true_eq_false, decide_true, decide_false, List.length_map, List.map_append, fmod_pos, fdiv_pos, and_true, true_and, and_self, Bool.and_true, Bool.or_false, Bool.and_false, Bool.or_true, Bool.true_and, Bool.false_and, ty_li_none, ty_li_bool, ty_li_int, ty_li_str, ty_li_list, ty_li_tuple, ty_tu_none, ty_tu_bool, ty_tu_int, ty_tu_str, ty_tu_list, ty_tu_tuple, ty_bo_none, ty_bo_bool, ty_bo_int, ty_bo_str, ty_bo_list, ty_bo_tuple, ty_in_none, ty_in_bool, ty_in_int, ty_in_str, ty_in_list, ty_in_tuple, ty_st_none, ty_st_bool, ty_st_int, ty_st_str, ty_st_list, ty_st_tuple, eq_int, ne_int, eq_bl, ne_bl, eq_st, ne_st, eq_li, ne_li, at_0, at_1, at_2, at_3, at_4, at_5, in_li, notin_li, c_z, c_s, gx_v, gx_s, e_mIsX, e_sTry, tc_ok, tc_exc, cm_nil, cm_cons, ex_ok, dx_nil, dx_v, dx_o, dx_x, dx_n, at_exx, Int.cast_ofNat_Int, e_mLrg1, e_mLrg2, d_lrg]
      · intro k hk _
        simp (disch := omega) only [bind_ok, bind_bad, bind_exc, at_ok, at_exc, ofO_some, oS_some, nox_okk, g_v, g_s, go_v, go_s, ga_v, ga_o, ga_s, s_z, s_s, fz_o, fz_v, fz_s, e_mGet, e_mC, e_m2, e_m1, e_mT, e_mB, e_mAndB, e_mOrB, e_mNotB, e_mAnd, e_mOr, e_mIf, e_mChain, e_mNil, e_mCons, e_mSeq, e_mCall, e_mNo, e_mPart, e_mCut, e_mIs, e_mIs2, e_mL, e_mDsp, e_mRep, e_mBind, e_mIxO, e_mBor, e_mBorB, e_mItems, e_mWk, e_mRev, e_mYes, e_mLc, e_gN, e_gE, e_gC, e_gTt, e_gTl, e_sNx, e_sThen, e_sDrop, e_sRet, e_sSet, e_sIf, e_sFor, e_sAsg, e_sPar, e_sSetO, e_sSetL, e_ownAt, e_freeze, e_sApp, e_sSetIx, e_sAugIx, e_sAug, e_sPop, e_sPopTo, e_fnM, e_bo_rt, e_bo_nx, e_bo_exc, e_startE, e_wipe0, e_wipe1, d_add, d_addib, d_addl, d_addt, d_sub, d_mul, d_div, d_mod, d_pow, d_cmp, d_neg, d_not, d_iadd, d_iop, d_toB, d_toI, d_trB, d_trI, d_trN, d_trL, d_trT, d_lenL, d_lenT, d_intI, d_intB, d_abs, d_gcd, d_max2, d_min2, d_sumI, d_anyB, d_allB, d_maxL, d_minL, d_listL, d_listT, d_tupL, d_tupT, d_idxL, d_idxT, d_lstL, d_lstT, d_revL, d_itL, d_itT, d_rng1, d_rng2, d_enum1, d_zip2, d_rev1L, d_rev1T, d_cutL, d_cutT, d_rep, d_mTup, d_mLst, d_setD, d_scN, d_scB, d_scI, d_scS, d_isN, d_isNN, d_nN, d_nB, d_nI, d_nS, d_nL, d_nT, if_true, if_false, ite_true, ite_false, reduceIte, List.length_cons, List.length_nil, Nat.zero_add, Nat.reduceAdd, Nat.reduceSub, Nat.reduceEqDiff, List.map_cons, List.map_nil, List.cons_append, List.nil_append, List.replicate, Option.map_some, Option.bind_some, Option.some.injEq, Bool.not_true, Bool.not_false, ne_eq, Bool.false_eq_true, Int.reduceEq, Int.reduceLT, Int.reduceLE, Int.reduceNeg, Int.reduceAdd, Int.reduceSub, Int.reduceMul, Int.reduceToNat, Int.toNat_natCast, Nat.reduceLT, Nat.reduceLeDiff, not_false_eq_true, not_true_eq_false, decide_true, decide_false, List.length_map, List.map_append, fmod_pos, fdiv_pos, and_true, true_and, and_self, Bool.and_true, Bool.or_false, Bool.and_false, Bool.or_true, Bool.true_and, Bool.false_and, ty_li_none, ty_li_bool, ty_li_int, ty_li_str, ty_li_list, ty_li_tuple, ty_tu_none, ty_tu_bool, ty_tu_int, ty_tu_str, ty_tu_list, ty_tu_tuple, ty_bo_none, ty_bo_bool, ty_bo_int, ty_bo_str, ty_bo_list, ty_bo_tuple, ty_in_none, ty_in_bool, ty_in_int, ty_in_str, ty_in_list, ty_in_tuple, ty_st_none, ty_st_bool, ty_st_int, ty_st_str, ty_st_list, ty_st_tuple, eq_int, ne_int, eq_bl, ne_bl, eq_st, ne_st, eq_li, ne_li, at_0, at_1, at_2, at_3, at_4, at_5, in_li, notin_li, c_z, c_s, gx_v, gx_s, e_mIsX, e_sTry, tc_ok, tc_exc, cm_nil, cm_cons, ex_ok, dx_nil, dx_v, dx_o, dx_x, dx_n, at_exx, Int.cast_ofNat_Int, e_mLrg1, e_mLrg2, d_lrg]
    · rw [List.length_map]
      refine Nat.le_trans (List.length_filter_le _ _) ?_
      rw [List.length_range]; omega
  refine ⟨p, ws, gs, ?_, p2, p5, g4 n1, by omega, g5.2, hgl⟩
  subst g2
  unfold m_law_loop b_law_loop
  rw [fn_go (n := 3) rfl]
  change bodyOut (sThen _ _ [some (.val (li ns)), some (.val (.int 1)), some (.val (.int M)), none, none, none, none, none, none, none]) = _
  rw [st_set (d := li ds) (by simp (disch := omega) only [hd, bind_ok, bind_bad, bind_exc, at_ok, at_exc, ofO_some, oS_some, nox_okk, g_v, g_s, go_v, go_s, ga_v, ga_o, ga_s, s_z, s_s, fz_o, fz_v, fz_s, e_mGet, e_mC, e_m2, e_m1, e_mT, e_mB, e_mAndB, e_mOrB, e_mNotB, e_mAnd, e_mOr, e_mIf, e_mChain, e_mNil, e_mCons, e_mSeq, e_mCall, e_mNo, e_mPart, e_mCut, e_mIs, e_mIs2, e_mL, e_mDsp, e_mRep, e_mBind, e_mIxO, e_mBor, e_mBorB, e_mItems, e_mWk, e_mRev, e_mYes, e_mLc, e_gN, e_gE, e_gC, e_gTt, e_gTl, e_sNx, e_sThen, e_sDrop, e_sRet, e_sSet, e_sIf, e_sFor, e_sAsg, e_sPar, e_sSetO, e_sSetL, e_ownAt, e_freeze, e_sApp, e_sSetIx, e_sAugIx, e_sAug, e_sPop, e_sPopTo, e_fnM, e_bo_rt, e_bo_nx, e_bo_exc, e_startE, e_wipe0, e_wipe1, d_add, d_addib, d_addl, d_addt, d_sub, d_mul, d_div, d_mod, d_pow, d_cmp, d_neg, d_not, d_iadd, d_iop, d_toB, d_toI, d_trB, d_trI, d_trN, d_trL, d_trT, d_lenL, d_lenT, d_intI, d_intB, d_abs, d_gcd, d_max2, d_min2, d_sumI, d_anyB, d_allB, d_maxL, d_minL, d_listL, d_listT, d_tupL, d_tupT, d_idxL, d_idxT, d_lstL, d_lstT, d_revL, d_itL, d_itT, d_rng1, d_rng2, d_enum1, d_zip2, d_rev1L, d_rev1T, d_cutL, d_cutT, d_rep, d_mTup, d_mLst, d_setD, d_scN, d_scB, d_scI, d_scS, d_isN, d_isNN, d_nN, d_nB, d_nI, d_nS, d_nL, d_nT, if_true, if_false, ite_true, ite_false, reduceIte, List.length_cons, List.length_nil, Nat.zero_add, Nat.reduceAdd, Nat.reduceSub, Nat.reduceEqDiff, List.map_cons, List.map_nil, List.cons_append, List.nil_append, List.replicate, Option.map_some, Option.bind_some, Option.some.injEq, Bool.not_true, Bool.not_false, ne_eq, Bool.false_eq_true, Int.reduceEq, Int.reduceLT, Int.reduceLE, Int.reduceNeg, Int.reduceAdd, Int.reduceSub, Int.reduceMul, Int.reduceToNat, Int.toNat_natCast, Nat.reduceLT, Nat.reduceLeDiff, not_false_eq_true, not_true_eq_false, decide_true, decide_false, List.length_map, List.map_append, fmod_pos, fdiv_pos, and_true, true_and, and_self, Bool.and_true, Bool.or_false, Bool.and_false, Bool.or_true, Bool.true_and, Bool.false_and, ty_li_none, ty_li_bool, ty_li_int, ty_li_str, ty_li_list, ty_li_tuple, ty_tu_none, ty_tu_bool, ty_tu_int, ty_tu_str, ty_tu_list, ty_tu_tuple, ty_bo_none, ty_bo_bool, ty_bo_int, ty_bo_str, ty_bo_list, ty_bo_tuple, ty_in_none, ty_in_bool, ty_in_int, ty_in_str, ty_in_list, ty_in_tuple, ty_st_none, ty_st_bool, ty_st_int, ty_st_str, ty_st_list, ty_st_tuple, eq_int, ne_int, eq_bl, ne_bl, eq_st, ne_st, eq_li, ne_li, at_0, at_1, at_2, at_3, at_4, at_5, in_li, notin_li, c_z, c_s, gx_v, gx_s, e_mIsX, e_sTry, tc_ok, tc_exc, cm_nil, cm_cons, ex_ok, dx_nil, dx_v, dx_o, dx_x, dx_n, at_exx, Int.cast_ofNat_Int, e_mLrg1, e_mLrg2, d_lrg])]; simp only [s_s, s_z]
  rw [st_set (d := .int p) (by simp (disch := omega) only [atI_li, hlen, m0, hp, bind_ok, bind_bad, bind_exc, at_ok, at_exc, ofO_some, oS_some, nox_okk, g_v, g_s, go_v, go_s, ga_v, ga_o, ga_s, s_z, s_s, fz_o, fz_v, fz_s, e_mGet, e_mC, e_m2, e_m1, e_mT, e_mB, e_mAndB, e_mOrB, e_mNotB, e_mAnd, e_mOr, e_mIf, e_mChain, e_mNil, e_mCons, e_mSeq, e_mCall, e_mNo, e_mPart, e_mCut, e_mIs, e_mIs2, e_mL, e_mDsp, e_mRep, e_mBind, e_mIxO, e_mBor, e_mBorB, e_mItems, e_mWk, e_mRev, e_mYes, e_mLc, e_gN, e_gE, e_gC, e_gTt, e_gTl, e_sNx, e_sThen, e_sDrop, e_sRet, e_sSet, e_sIf, e_sFor, e_sAsg, e_sPar, e_sSetO, e_sSetL, e_ownAt, e_freeze, e_sApp, e_sSetIx, e_sAugIx, e_sAug, e_sPop, e_sPopTo, e_fnM, e_bo_rt, e_bo_nx, e_bo_exc, e_startE, e_wipe0, e_wipe1, d_add, d_addib, d_addl, d_addt, d_sub, d_mul, d_div, d_mod, d_pow, d_cmp, d_neg, d_not, d_iadd, d_iop, d_toB, d_toI, d_trB, d_trI, d_trN, d_trL, d_trT, d_lenL, d_lenT, d_intI, d_intB, d_abs, d_gcd, d_max2, d_min2, d_sumI, d_anyB, d_allB, d_maxL, d_minL, d_listL, d_listT, d_tupL, d_tupT, d_idxL, d_idxT, d_lstL, d_lstT, d_revL, d_itL, d_itT, d_rng1, d_rng2, d_enum1, d_zip2, d_rev1L, d_rev1T, d_cutL, d_cutT, d_rep, d_mTup, d_mLst, d_setD, d_scN, d_scB, d_scI, d_scS, d_isN, d_isNN, d_nN, d_nB, d_nI, d_nS, d_nL, d_nT, if_true, if_false, ite_true, ite_false, reduceIte, List.length_cons, List.length_nil, Nat.zero_add, Nat.reduceAdd, Nat.reduceSub, Nat.reduceEqDiff, List.map_cons, List.map_nil, List.cons_append, List.nil_append, List.replicate, Option.map_some, Option.bind_some, Option.some.injEq, Bool.not_true, Bool.not_false, ne_eq, Bool.false_eq_true, Int.reduceEq, Int.reduceLT, Int.reduceLE, Int.reduceNeg, Int.reduceAdd, Int.reduceSub, Int.reduceMul, Int.reduceToNat, Int.toNat_natCast, Nat.reduceLT, Nat.reduceLeDiff, not_false_eq_true, not_true_eq_false, decide_true, decide_false, List.length_map, List.map_append, fmod_pos, fdiv_pos, and_true, true_and, and_self, Bool.and_true, Bool.or_false, Bool.and_false, Bool.or_true, Bool.true_and, Bool.false_and, ty_li_none, ty_li_bool, ty_li_int, ty_li_str, ty_li_list, ty_li_tuple, ty_tu_none, ty_tu_bool, ty_tu_int, ty_tu_str, ty_tu_list, ty_tu_tuple, ty_bo_none, ty_bo_bool, ty_bo_int, ty_bo_str, ty_bo_list, ty_bo_tuple, ty_in_none, ty_in_bool, ty_in_int, ty_in_str, ty_in_list, ty_in_tuple, ty_st_none, ty_st_bool, ty_st_int, ty_st_str, ty_st_list, ty_st_tuple, eq_int, ne_int, eq_bl, ne_bl, eq_st, ne_st, eq_li, ne_li, at_0, at_1, at_2, at_3, at_4, at_5, in_li, notin_li, c_z, c_s, gx_v, gx_s, e_mIsX, e_sTry, tc_ok, tc_exc, cm_nil, cm_cons, ex_ok, dx_nil, dx_v, dx_o, dx_x, dx_n, at_exx, Int.cast_ofNat_Int, e_mLrg1, e_mLrg2, d_lrg])]; simp only [s_s, s_z]
  rw [st_setO (ds := []) (by simp (disch := omega) only [h0s, bind_ok, bind_bad, bind_exc, at_ok, at_exc, ofO_some, oS_some, nox_okk, g_v, g_s, go_v, go_s, ga_v, ga_o, ga_s, s_z, s_s, fz_o, fz_v, fz_s, e_mGet, e_mC, e_m2, e_m1, e_mT, e_mB, e_mAndB, e_mOrB, e_mNotB, e_mAnd, e_mOr, e_mIf, e_mChain, e_mNil, e_mCons, e_mSeq, e_mCall, e_mNo, e_mPart, e_mCut, e_mIs, e_mIs2, e_mL, e_mDsp, e_mRep, e_mBind, e_mIxO, e_mBor, e_mBorB, e_mItems, e_mWk, e_mRev, e_mYes, e_mLc, e_gN, e_gE, e_gC, e_gTt, e_gTl, e_sNx, e_sThen, e_sDrop, e_sRet, e_sSet, e_sIf, e_sFor, e_sAsg, e_sPar, e_sSetO, e_sSetL, e_ownAt, e_freeze, e_sApp, e_sSetIx, e_sAugIx, e_sAug, e_sPop, e_sPopTo, e_fnM, e_bo_rt, e_bo_nx, e_bo_exc, e_startE, e_wipe0, e_wipe1, d_add, d_addib, d_addl, d_addt, d_sub, d_mul, d_div, d_mod, d_pow, d_cmp, d_neg, d_not, d_iadd, d_iop, d_toB, d_toI, d_trB, d_trI, d_trN, d_trL, d_trT, d_lenL, d_lenT, d_intI, d_intB, d_abs, d_gcd, d_max2, d_min2, d_sumI, d_anyB, d_allB, d_maxL, d_minL, d_listL, d_listT, d_tupL, d_tupT, d_idxL, d_idxT, d_lstL, d_lstT, d_revL, d_itL, d_itT, d_rng1, d_rng2, d_enum1, d_zip2, d_rev1L, d_rev1T, d_cutL, d_cutT, d_rep, d_mTup, d_mLst, d_setD, d_scN, d_scB, d_scI, d_scS, d_isN, d_isNN, d_nN, d_nB, d_nI, d_nS, d_nL, d_nT, if_true, if_false, ite_true, ite_false, reduceIte, List.length_cons, List.length_nil, Nat.zero_add, Nat.reduceAdd, Nat.reduceSub, Nat.reduceEqDiff, List.map_cons, List.map_nil, List.cons_append, List.nil_append, List.replicate, Option.map_some, Option.bind_some, Option.some.injEq, Bool.not_true, Bool.not_false, ne_eq, Bool.false_eq_true, Int.reduceEq, Int.reduceLT, Int.reduceLE, Int.reduceNeg, Int.reduceAdd, Int.reduceSub, Int.reduceMul, Int.reduceToNat, Int.toNat_natCast, Nat.reduceLT, Nat.reduceLeDiff, not_false_eq_true, not_true_eq_false, decide_true, decide_false, List.length_map, List.map_append, fmod_pos, fdiv_pos, and_true, true_and, and_self, Bool.and_true, Bool.or_false, Bool.and_false, Bool.or_true, Bool.true_and, Bool.false_and, ty_li_none, ty_li_bool, ty_li_int, ty_li_str, ty_li_list, ty_li_tuple, ty_tu_none, ty_tu_bool, ty_tu_int, ty_tu_str, ty_tu_list, ty_tu_tuple, ty_bo_none, ty_bo_bool, ty_bo_int, ty_bo_str, ty_bo_list, ty_bo_tuple, ty_in_none, ty_in_bool, ty_in_int, ty_in_str, ty_in_list, ty_in_tuple, ty_st_none, ty_st_bool, ty_st_int, ty_st_str, ty_st_list, ty_st_tuple, eq_int, ne_int, eq_bl, ne_bl, eq_st, ne_st, eq_li, ne_li, at_0, at_1, at_2, at_3, at_4, at_5, in_li, notin_li, c_z, c_s, gx_v, gx_s, e_mIsX, e_sTry, tc_ok, tc_exc, cm_nil, cm_cons, ex_ok, dx_nil, dx_v, dx_o, dx_x, dx_n, at_exx, Int.cast_ofNat_Int, e_mLrg1, e_mLrg2, d_lrg])]; simp only [s_s, s_z]
  rw [st_set (d := .int (ds.getD 1 0 % p)) (by simp (disch := omega) only [atI_li, hlen, p0, bind_ok, bind_bad, bind_exc, at_ok, at_exc, ofO_some, oS_some, nox_okk, g_v, g_s, go_v, go_s, ga_v, ga_o, ga_s, s_z, s_s, fz_o, fz_v, fz_s, e_mGet, e_mC, e_m2, e_m1, e_mT, e_mB, e_mAndB, e_mOrB, e_mNotB, e_mAnd, e_mOr, e_mIf, e_mChain, e_mNil, e_mCons, e_mSeq, e_mCall, e_mNo, e_mPart, e_mCut, e_mIs, e_mIs2, e_mL, e_mDsp, e_mRep, e_mBind, e_mIxO, e_mBor, e_mBorB, e_mItems, e_mWk, e_mRev, e_mYes, e_mLc, e_gN, e_gE, e_gC, e_gTt, e_gTl, e_sNx, e_sThen, e_sDrop, e_sRet, e_sSet, e_sIf, e_sFor, e_sAsg, e_sPar, e_sSetO, e_sSetL, e_ownAt, e_freeze, e_sApp, e_sSetIx, e_sAugIx, e_sAug, e_sPop, e_sPopTo, e_fnM, e_bo_rt, e_bo_nx, e_bo_exc, e_startE, e_wipe0, e_wipe1, d_add, d_addib, d_addl, d_addt, d_sub, d_mul, d_div, d_mod, d_pow, d_cmp, d_neg, d_not, d_iadd, d_iop, d_toB, d_toI, d_trB, d_trI, d_trN, d_trL, d_trT, d_lenL, d_lenT, d_intI, d_intB, d_abs, d_gcd, d_max2, d_min2, d_sumI, d_anyB, d_allB, d_maxL, d_minL, d_listL, d_listT, d_tupL, d_tupT, d_idxL, d_idxT, d_lstL, d_lstT, d_revL, d_itL, d_itT, d_rng1, d_rng2, d_enum1, d_zip2, d_rev1L, d_rev1T, d_cutL, d_cutT, d_rep, d_mTup, d_mLst, d_setD, d_scN, d_scB, d_scI, d_scS, d_isN, d_isNN, d_nN, d_nB, d_nI, d_nS, d_nL, d_nT, if_true, if_false, ite_true, ite_false, reduceIte, List.length_cons, List.length_nil, Nat.zero_add, Nat.reduceAdd, Nat.reduceSub, Nat.reduceEqDiff, List.map_cons, List.map_nil, List.cons_append, List.nil_append, List.replicate, Option.map_some, Option.bind_some, Option.some.injEq, Bool.not_true, Bool.not_false, ne_eq, Bool.false_eq_true, Int.reduceEq, Int.reduceLT, Int.reduceLE, Int.reduceNeg, Int.reduceAdd, Int.reduceSub, Int.reduceMul, Int.reduceToNat, Int.toNat_natCast, Nat.reduceLT, Nat.reduceLeDiff, not_false_eq_true, not_true_eq_false, decide_true, decide_false, List.length_map, List.map_append, fmod_pos, fdiv_pos, and_true, true_and, and_self, Bool.and_true, Bool.or_false, Bool.and_false, Bool.or_true, Bool.true_and, Bool.false_and, ty_li_none, ty_li_bool, ty_li_int, ty_li_str, ty_li_list, ty_li_tuple, ty_tu_none, ty_tu_bool, ty_tu_int, ty_tu_str, ty_tu_list, ty_tu_tuple, ty_bo_none, ty_bo_bool, ty_bo_int, ty_bo_str, ty_bo_list, ty_bo_tuple, ty_in_none, ty_in_bool, ty_in_int, ty_in_str, ty_in_list, ty_in_tuple, ty_st_none, ty_st_bool, ty_st_int, ty_st_str, ty_st_list, ty_st_tuple, eq_int, ne_int, eq_bl, ne_bl, eq_st, ne_st, eq_li, ne_li, at_0, at_1, at_2, at_3, at_4, at_5, in_li, notin_li, c_z, c_s, gx_v, gx_s, e_mIsX, e_sTry, tc_ok, tc_exc, cm_nil, cm_cons, ex_ok, dx_nil, dx_v, dx_o, dx_x, dx_n, at_exx, Int.cast_ofNat_Int, e_mLrg1, e_mLrg2, d_lrg])]; simp only [s_s, s_z]
  rw [st_nx (by simp (disch := omega) only [atI_li, hlen, hn, hn62, bind_ok, bind_bad, bind_exc, at_ok, at_exc, ofO_some, oS_some, nox_okk, g_v, g_s, go_v, go_s, ga_v, ga_o, ga_s, s_z, s_s, fz_o, fz_v, fz_s, e_mGet, e_mC, e_m2, e_m1, e_mT, e_mB, e_mAndB, e_mOrB, e_mNotB, e_mAnd, e_mOr, e_mIf, e_mChain, e_mNil, e_mCons, e_mSeq, e_mCall, e_mNo, e_mPart, e_mCut, e_mIs, e_mIs2, e_mL, e_mDsp, e_mRep, e_mBind, e_mIxO, e_mBor, e_mBorB, e_mItems, e_mWk, e_mRev, e_mYes, e_mLc, e_gN, e_gE, e_gC, e_gTt, e_gTl, e_sNx, e_sThen, e_sDrop, e_sRet, e_sSet, e_sIf, e_sFor, e_sAsg, e_sPar, e_sSetO, e_sSetL, e_ownAt, e_freeze, e_sApp, e_sSetIx, e_sAugIx, e_sAug, e_sPop, e_sPopTo, e_fnM, e_bo_rt, e_bo_nx, e_bo_exc, e_startE, e_wipe0, e_wipe1, d_add, d_addib, d_addl, d_addt, d_sub, d_mul, d_div, d_mod, d_pow, d_cmp, d_neg, d_not, d_iadd, d_iop, d_toB, d_toI, d_trB, d_trI, d_trN, d_trL, d_trT, d_lenL, d_lenT, d_intI, d_intB, d_abs, d_gcd, d_max2, d_min2, d_sumI, d_anyB, d_allB, d_maxL, d_minL, d_listL, d_listT, d_tupL, d_tupT, d_idxL, d_idxT, d_lstL, d_lstT, d_revL, d_itL, d_itT, d_rng1, d_rng2, d_enum1, d_zip2, d_rev1L, d_rev1T, d_cutL, d_cutT, d_rep, d_mTup, d_mLst, d_setD, d_scN, d_scB, d_scI, d_scS, d_isN, d_isNN, d_nN, d_nB, d_nI, d_nS, d_nL, d_nT, if_true, if_false, ite_true, ite_false, reduceIte, List.length_cons, List.length_nil, Nat.zero_add, Nat.reduceAdd, Nat.reduceSub, Nat.reduceEqDiff, List.map_cons, List.map_nil, List.cons_append, List.nil_append, List.replicate, Option.map_some, Option.bind_some, Option.some.injEq, Bool.not_true, Bool.not_false, ne_eq, Bool.false_eq_true, Int.reduceEq, Int.reduceLT, Int.reduceLE, Int.reduceNeg, Int.reduceAdd, Int.reduceSub, Int.reduceMul, Int.reduceToNat, Int.toNat_natCast, Nat.reduceLT, Nat.reduceLeDiff, not_false_eq_true, not_true_eq_false, decide_true, decide_false, List.length_map, List.map_append, fmod_pos, fdiv_pos, and_true, true_and, and_self, Bool.and_true, Bool.or_false, Bool.and_false, Bool.or_true, Bool.true_and, Bool.false_and, ty_li_none, ty_li_bool, ty_li_int, ty_li_str, ty_li_list, ty_li_tuple, ty_tu_none, ty_tu_bool, ty_tu_int, ty_tu_str, ty_tu_list, ty_tu_tuple, ty_bo_none, ty_bo_bool, ty_bo_int, ty_bo_str, ty_bo_list, ty_bo_tuple, ty_in_none, ty_in_bool, ty_in_int, ty_in_str, ty_in_list, ty_in_tuple, ty_st_none, ty_st_bool, ty_st_int, ty_st_str, ty_st_list, ty_st_tuple, eq_int, ne_int, eq_bl, ne_bl, eq_st, ne_st, eq_li, ne_li, at_0, at_1, at_2, at_3, at_4, at_5, in_li, notin_li, c_z, c_s, gx_v, gx_s, e_mIsX, e_sTry, tc_ok, tc_exc, cm_nil, cm_cons, ex_ok, dx_nil, dx_v, dx_o, dx_x, dx_n, at_exx, Int.cast_ofNat_Int, e_mLrg1, e_mLrg2, d_lrg]; exact g1)]
  rw [st_setL (ds := gs.map .int) (by simp (disch := omega) only [rp, hlp, bind_ok, bind_bad, bind_exc, at_ok, at_exc, ofO_some, oS_some, nox_okk, g_v, g_s, go_v, go_s, ga_v, ga_o, ga_s, s_z, s_s, fz_o, fz_v, fz_s, e_mGet, e_mC, e_m2, e_m1, e_mT, e_mB, e_mAndB, e_mOrB, e_mNotB, e_mAnd, e_mOr, e_mIf, e_mChain, e_mNil, e_mCons, e_mSeq, e_mCall, e_mNo, e_mPart, e_mCut, e_mIs, e_mIs2, e_mL, e_mDsp, e_mRep, e_mBind, e_mIxO, e_mBor, e_mBorB, e_mItems, e_mWk, e_mRev, e_mYes, e_mLc, e_gN, e_gE, e_gC, e_gTt, e_gTl, e_sNx, e_sThen, e_sDrop, e_sRet, e_sSet, e_sIf, e_sFor, e_sAsg, e_sPar, e_sSetO, e_sSetL, e_ownAt, e_freeze, e_sApp, e_sSetIx, e_sAugIx, e_sAug, e_sPop, e_sPopTo, e_fnM, e_bo_rt, e_bo_nx, e_bo_exc, e_startE, e_wipe0, e_wipe1, d_add, d_addib, d_addl, d_addt, d_sub, d_mul, d_div, d_mod, d_pow, d_cmp, d_neg, d_not, d_iadd, d_iop, d_toB, d_toI, d_trB, d_trI, d_trN, d_trL, d_trT, d_lenL, d_lenT, d_intI, d_intB, d_abs, d_gcd, d_max2, d_min2, d_sumI, d_anyB, d_allB, d_maxL, d_minL, d_listL, d_listT, d_tupL, d_tupT, d_idxL, d_idxT, d_lstL, d_lstT, d_revL, d_itL, d_itT, d_rng1, d_rng2, d_enum1, d_zip2, d_rev1L, d_rev1T, d_cutL, d_cutT, d_rep, d_mTup, d_mLst, d_setD, d_scN, d_scB, d_scI, d_scS, d_isN, d_isNN, d_nN, d_nB, d_nI, d_nS, d_nL, d_nT, if_true, if_false, ite_true, ite_false, reduceIte, List.length_cons, List.length_nil, Nat.zero_add, Nat.reduceAdd, Nat.reduceSub, Nat.reduceEqDiff, List.map_cons, List.map_nil, List.cons_append, List.nil_append, List.replicate, Option.map_some, Option.bind_some, Option.some.injEq, Bool.not_true, Bool.not_false, ne_eq, Bool.false_eq_true, Int.reduceEq, Int.reduceLT, Int.reduceLE, Int.reduceNeg, Int.reduceAdd, Int.reduceSub, Int.reduceMul, Int.reduceToNat, Int.toNat_natCast, Nat.reduceLT, Nat.reduceLeDiff, not_false_eq_true, not_true_eq_false, decide_true, decide_false, List.length_map, List.map_append, fmod_pos, fdiv_pos, and_true, true_and, and_self, Bool.and_true, Bool.or_false, Bool.and_false, Bool.or_true, Bool.true_and, Bool.false_and, ty_li_none, ty_li_bool, ty_li_int, ty_li_str, ty_li_list, ty_li_tuple, ty_tu_none, ty_tu_bool, ty_tu_int, ty_tu_str, ty_tu_list, ty_tu_tuple, ty_bo_none, ty_bo_bool, ty_bo_int, ty_bo_str, ty_bo_list, ty_bo_tuple, ty_in_none, ty_in_bool, ty_in_int, ty_in_str, ty_in_list, ty_in_tuple, ty_st_none, ty_st_bool, ty_st_int, ty_st_str, ty_st_list, ty_st_tuple, eq_int, ne_int, eq_bl, ne_bl, eq_st, ne_st, eq_li, ne_li, at_0, at_1, at_2, at_3, at_4, at_5, in_li, notin_li, c_z, c_s, gx_v, gx_s, e_mIsX, e_sTry, tc_ok, tc_exc, cm_nil, cm_cons, ex_ok, dx_nil, dx_v, dx_o, dx_x, dx_n, at_exx, Int.cast_ofNat_Int, e_mLrg1, e_mLrg2, d_lrg]; exact hgs)]; simp only [s_s, s_z]
  simp (disch := omega) only [h3s, bind_ok, bind_bad, bind_exc, at_ok, at_exc, ofO_some, oS_some, nox_okk, g_v, g_s, go_v, go_s, ga_v, ga_o, ga_s, s_z, s_s, fz_o, fz_v, fz_s, e_mGet, e_mC, e_m2, e_m1, e_mT, e_mB, e_mAndB, e_mOrB, e_mNotB, e_mAnd, e_mOr, e_mIf, e_mChain, e_mNil, e_mCons, e_mSeq, e_mCall, e_mNo, e_mPart, e_mCut, e_mIs, e_mIs2, e_mL, e_mDsp, e_mRep, e_mBind, e_mIxO, e_mBor, e_mBorB, e_mItems, e_mWk, e_mRev, e_mYes, e_mLc, e_gN, e_gE, e_gC, e_gTt, e_gTl, e_sNx, e_sThen, e_sDrop, e_sRet, e_sSet, e_sIf, e_sFor, e_sAsg, e_sPar, e_sSetO, e_sSetL, e_ownAt, e_freeze, e_sApp, e_sSetIx, e_sAugIx, e_sAug, e_sPop, e_sPopTo, e_fnM, e_bo_rt, e_bo_nx, e_bo_exc, e_startE, e_wipe0, e_wipe1, d_add, d_addib, d_addl, d_addt, d_sub, d_mul, d_div, d_mod, d_pow, d_cmp, d_neg, d_not, d_iadd, d_iop, d_toB, d_toI, d_trB, d_trI, d_trN, d_trL, d_trT, d_lenL, d_lenT, d_intI, d_intB, d_abs, d_gcd, d_max2, d_min2, d_sumI, d_anyB, d_allB, d_maxL, d_minL, d_listL, d_listT, d_tupL, d_tupT, d_idxL, d_idxT, d_lstL, d_lstT, d_revL, d_itL, d_itT, d_rng1, d_rng2, d_enum1, d_zip2, d_rev1L, d_rev1T, d_cutL, d_cutT, d_rep, d_mTup, d_mLst, d_setD, d_scN, d_scB, d_scI, d_scS, d_isN, d_isNN, d_nN, d_nB, d_nI, d_nS, d_nL, d_nT, if_true, if_false, ite_true, ite_false, reduceIte, List.length_cons, List.length_nil, Nat.zero_add, Nat.reduceAdd, Nat.reduceSub, Nat.reduceEqDiff, List.map_cons, List.map_nil, List.cons_append, List.nil_append, List.replicate, Option.map_some, Option.bind_some, Option.some.injEq, Bool.not_true, Bool.not_false, ne_eq, Bool.false_eq_true, Int.reduceEq, Int.reduceLT, Int.reduceLE, Int.reduceNeg, Int.reduceAdd, Int.reduceSub, Int.reduceMul, Int.reduceToNat, Int.toNat_natCast, Nat.reduceLT, Nat.reduceLeDiff, not_false_eq_true, not_true_eq_false, decide_true, decide_false, List.length_map, List.map_append, fmod_pos, fdiv_pos, and_true, true_and, and_self, Bool.and_true, Bool.or_false, Bool.and_false, Bool.or_true, Bool.true_and, Bool.false_and, ty_li_none, ty_li_bool, ty_li_int, ty_li_str, ty_li_list, ty_li_tuple, ty_tu_none, ty_tu_bool, ty_tu_int, ty_tu_str, ty_tu_list, ty_tu_tuple, ty_bo_none, ty_bo_bool, ty_bo_int, ty_bo_str, ty_bo_list, ty_bo_tuple, ty_in_none, ty_in_bool, ty_in_int, ty_in_str, ty_in_list, ty_in_tuple, ty_st_none, ty_st_bool, ty_st_int, ty_st_str, ty_st_list, ty_st_tuple, eq_int, ne_int, eq_bl, ne_bl, eq_st, ne_st, eq_li, ne_li, at_0, at_1, at_2, at_3, at_4, at_5, in_li, notin_li, c_z, c_s, gx_v, gx_s, e_mIsX, e_sTry, tc_ok, tc_exc, cm_nil, cm_cons, ex_ok, dx_nil, dx_v, dx_o, dx_x, dx_n, at_exx, Int.cast_ofNat_Int, e_mLrg1, e_mLrg2, d_lrg]
theorem bd_more {gs gs' : List Int} {q : Int} {w : Stn} (h : okW w) (hs : ∀ x, x ∈ gs → x ∈ gs') : bd gs q w ≤ bd gs' q w := by
  obtain ⟨a, b, c, d⟩ := h
  unfold bd
  by_cases g : q ∈ gs
  · rw [if_pos g, if_pos (hs q g)]; exact Int.le_refl _
  · rw [if_neg g]
    split <;> omega
/-- one loop with more wear -/
theorem other_ok {p most t q : Int} {ws : List Stn} {gs gs' : List Int} {g : Stn → Stn} (hp : 0 < p) (hp2 : p < 2 ^ 20) (h0 : 1 ≤ ws.length) (hl : ws.length ≤ 100) (hw : ∀ w ∈ ws, okW w) (hw' : ∀ w ∈ ws.map g, okW w) (hm : 1 ≤ most)
    (hq : 0 ≤ q) (hqp : q < p) (ht : t = Wn p most (its p gs q ws)) (hmore : ∀ w ∈ ws, (g w).1 = w.1 ∧ bd gs q w ≤ bd gs' q (g w)) :
    ∃ t' q' : Int, m_first_worn [lo p (ws.map g) gs', .int most] = .ok (pr (t', q')) ∧ m_law_right [lo p (ws.map g) gs', .int most, pr (t', q')] = .ok (.bool true) ∧ t' ≤ t := by
  have l' : (ws.map g).length = ws.length := List.length_map _
  obtain ⟨t', q', h1, h2, h3, h4, h5, h6⟩ := first_right (gs := gs') hp hp2 (by omega) (by omega) hw' most hm
  refine ⟨t', q', h1, h2, ?_⟩
  obtain ⟨o1, o2⟩ := its_ok (gs := gs) (q := q) hp hw
  obtain ⟨o1', o2'⟩ := its_ok (gs := gs') (q := q) hp hw'
  have T1 := Tw_its (gs := gs) hp (by omega) h0 hl hw q
  have T2 := Tw_its (gs := gs') hp (by omega) (by omega) (by omega) hw' q
  obtain ⟨k1, k2, k3⟩ := Wn_ok hp o1 (fun x hx => (o2 x hx).1) (by omega) hm
  obtain ⟨m1, m2, m3⟩ := Wn_ok hp o1' (fun x hx => (o2' x hx).1) (by omega) hm
  rw [← ht] at k1 k2 k3
  have le := We_le (b := t) hp (by omega) hmore
  exact not_later (f := fun r => its p gs r ws) (g := fun r => its p gs' r (ws.map g)) (q1 := q) (m1 := most) hp hq hqp (fun x hx => by have := (o2' x hx).1; omega) (show most ≤ We p (its p gs' q (ws.map g)) t by omega) m2 h6
theorem bd_nil (q : Int) (w : Stn) : bd [] q w = w.2.1 := by unfold bd; rw [if_neg (by simp)]
theorem Tw_nil (p q : Int) (ws : List Stn) : Tw (its p [] q ws) = (ws.map fun w => w.2.1).sum := by
  unfold Tw its
  rw [List.map_map]
  exact congrArg List.sum (List.map_congr_left fun w _ => bd_nil q w)
/-- without grips many turns more wear a piece out so many turns later -/
theorem plain_ok {p most many : Int} {ws : List Stn} (hp : 0 < p) (hp2 : p < 2 ^ 20) (h0 : 1 ≤ ws.length) (hl : ws.length ≤ 100) (hw : ∀ w ∈ ws, okW w) :
    ∃ t q : Int, m_first_worn [lo p ws [], .int most] = .ok (pr (t, q)) ∧ m_first_worn [lo p ws [], .int (most + many * (ws.map fun w => w.2.1).sum)] = .ok (pr (t + many * p, q)) := by
  obtain ⟨t, q, h1, h2, h3, h4, h5⟩ := first_ok (gs := []) hp (by omega) h0 hl hw most hp2
  obtain ⟨t', q', g1, g2, g3, g4, g5⟩ := first_ok (gs := []) hp (by omega) h0 hl hw (most + many * (ws.map fun w => w.2.1).sum) hp2
  have sh : ∀ r, Wn p (most + many * (ws.map fun w => w.2.1).sum) (its p [] r ws) = Wn p most (its p [] r ws) + many * p := fun r => by
    rw [← Tw_nil p r ws]
    exact Wn_shift (by have := Tw_its (gs := []) hp (by omega) h0 hl hw r; omega)
  have a := (leP_iff _ _).mp (h5 q' g2 g3)
  have b := (leP_iff _ _).mp (g5 q h2 h3)
  rw [sh] at b g4
  simp only at a b
  have e1 : t' = t + many * p := by omega
  have e2 : q' = q := by omega
  subst e1 e2
  exact ⟨t, q', h1, g1⟩
theorem plain_pr {k : Nat} (x : Int × Int) : plainD (k + 2) (pr x) := ⟨by simp, fun y hy => by
  simp only [List.mem_cons, List.not_mem_nil, or_false] at hy
  rcases hy with rfl | rfl <;> trivial⟩
theorem law_true (ns : List Int) (hns : ns.length ≤ 63) : m_law [.list (ns.map .int)] = .ok (.bool true) := by
  obtain ⟨ds, hd, hlen, hb⟩ := draws_ok ns 0 12 (by decide) (by decide)
  have hd : m_law_draws [.list (ns.map .int), .int 0, .int 12] = .ok (li ds) := hd
  have bd : ∀ k : Nat, k < 12 → 0 ≤ ds.getD k 0 ∧ ds.getD k 0 < 5040 := by
    intro k hk
    rw [List.getD_eq_getElem?_getD, List.getElem?_eq_getElem (by omega), Option.getD_some]
    exact hb _ (List.getElem_mem _)
  have b2 := bd 2 (by decide)
  have b3 := bd 3 (by decide)
  have h4s : 4 ≤ sizeLine := by rw [line_eq]; omega
  have h3s : 3 ≤ sizeLine := by rw [line_eq]; omega
  have h1s : 1 ≤ sizeLine := by rw [line_eq]; omega
  have h0s : (0 : Nat) ≤ sizeLine := Nat.zero_le _
  have mz : mulOk (ds.getD 0 0 % 4) (if decide (ds.getD 1 0 % 4 = 0) = true then 1 else 0) := mulOk_l (by omega) (by omega)
  obtain ⟨M, hM, hM0⟩ := at4 (P := fun t => 2 ≤ t ∧ t ≤ 500) (x := 12) (y := 40) (z := 24) (u := 500) (i := ds.getD 0 0 % 4 * (if decide (ds.getD 1 0 % 4 = 0) = true then 1 else 0)) (by split <;> omega) (by split <;> omega) (by decide) (by decide) (by decide) (by decide)
  obtain ⟨p, ws, gs, hlp, p2, p5, l1, l6, hws, hgl⟩ := loop_ok ns hM0.1 hM0.2
  have hlp : m_law_loop [.list (ns.map .int), .int 1, .int M] = .ok (lo p ws gs) := hlp
  have hp : 0 < p := by omega
  have hp2 : p < 2 ^ 20 := by omega
  have hl : ws.length ≤ 100 := by omega
  have hw : ∀ w ∈ ws, okW w := fun w h => by obtain ⟨a, b, c, d⟩ := hws w h; exact ⟨a, by omega, c, by omega⟩
  have hp30 : powOk 10 30 := by decide
  have hp20 : powOk 10 20 := by decide
  have m23 : mulOk (ds.getD 2 0) (ds.getD 3 0) := mulOk_r (by omega) (by omega)
  have nn : 0 ≤ ds.getD 2 0 * ds.getD 3 0 := Int.mul_nonneg b2.1 b3.1
  obtain ⟨mo, hmo, hmo0⟩ := at4 (P := fun t => 0 ≤ t) (x := ds.getD 2 0 % 9) (y := ds.getD 2 0) (z := ds.getD 2 0 * ds.getD 3 0) (u := 10 ^ 30 + ds.getD 3 0) (i := ds.getD 4 0 % 4) (by omega) (by omega) (by omega) b2.1 nn (by omega)
  obtain ⟨most, hmost, hm1⟩ : ∃ most, 1 + mo = most ∧ 1 ≤ most := ⟨_, rfl, by omega⟩
  obtain ⟨t, q, f1, f2, f3, f4, f5, f6⟩ := first_right (gs := gs) hp hp2 l1 hl hw most hm1
  obtain ⟨t2, q2, g1, g2, g3, g4, g5, g6⟩ := first_right (gs := gs) hp hp2 l1 hl hw (most + 1) (by omega)
  have later : t ≤ t2 := by
    obtain ⟨o1, o2⟩ := its_ok (gs := gs) (q := q2) hp hw
    have T := Tw_its (gs := gs) hp (by omega) l1 hl hw q2
    obtain ⟨k1, k2, k3⟩ := Wn_ok (most := most + 1) hp o1 (fun x hx => (o2 x hx).1) (by omega) (by omega)
    obtain ⟨n1, n2, n3⟩ := Wn_ok (most := most) hp o1 (fun x hx => (o2 x hx).1) (by omega) hm1
    rw [← g5] at k1
    exact not_later (f := fun r => its p gs r ws) (g := fun r => its p gs r ws) (q1 := q2) (m1 := most) hp g3 g4 (fun x hx => by have := (o2 x hx).1; omega) (show most ≤ We p (its p gs q2 ws) t2 by omega) n2 f6
  have nl : ¬ (t2 < t) := by omega
  have p0 : p ≠ 0 := by omega
  -- one grip more
  obtain ⟨ex, hex, hexl⟩ : ∃ ex : List Int, ([ds.getD 5 0 % p].filter fun x => !decide (x ∈ gs)) = ex ∧ ex.length ≤ 1 := ⟨_, rfl, List.length_filter_le _ _⟩
  obtain ⟨gm, hgm⟩ : ∃ gm : List Int, (gs ++ ex).mergeSort leI = gm := ⟨_, rfl⟩
  have gsub : ∀ x, x ∈ gs → x ∈ gm := fun x hx => by rw [← hgm]; exact leI_mem.mpr (List.mem_append_left _ hx)
  have hsort := sort_li (gs ++ ex)
  rw [hgm] at hsort
  obtain ⟨ta, qa, a1, a2, a3⟩ := other_ok (gs := gs) (gs' := gm) (g := fun w => w) (most := most) (t := t) (q := q) hp hp2 l1 hl hw (by rw [List.map_id']; exact hw) hm1 f3 f4 f5 (fun w h => ⟨rfl, bd_more (hw w h) gsub⟩)
  rw [List.map_id'] at a1 a2
  -- one bend more
  have lpos : 0 < ws.length := by omega
  have kk : (ds.getD 6 0 % (ws.length : Int)).toNat < ws.length := by
    have := Int.emod_nonneg (ds.getD 6 0) (show (ws.length : Int) ≠ 0 by omega)
    have := Int.emod_lt_of_pos (ds.getD 6 0) (show (0 : Int) < ws.length by omega)
    omega
  have len0 : ¬ ((ws.length : Int) = 0) := by omega
  obtain ⟨w0, hw0, hat0⟩ : ∃ w0, w0 ∈ ws ∧ L2.atI (ws.map s3) (ds.getD 6 0 % (ws.length : Int)) = some (s3 w0) := ⟨ws[(ds.getD 6 0 % (ws.length : Int)).toNat], List.getElem_mem _, atI_ok (Int.emod_nonneg _ (by omega)) (by rw [List.getElem?_map, List.getElem?_eq_getElem kk]; rfl)⟩
  obtain ⟨g, hg⟩ : ∃ g : Stn → Stn, g = fun w => (w.1, w.2.1 + (if decide (w.1 = w0.1) = true then 1 else 0), w.2.2) := ⟨_, rfl⟩
  have hwg : ∀ w ∈ ws.map g, okW w := fun w h => by
    obtain ⟨v, hv, rfl⟩ := List.mem_map.mp h
    obtain ⟨a, b, c, d⟩ := hws v hv
    rw [hg]
    refine ⟨?_, ?_, ?_, ?_⟩ <;> simp only <;> (try split) <;> omega
  obtain ⟨tb, qb, c1, c2, c3⟩ := other_ok (gs := gs) (gs' := gs) (g := g) (most := most) (t := t) (q := q) hp hp2 l1 hl hw hwg hm1 f3 f4 f5 (fun w h => ⟨by rw [hg], by
    rw [hg]
    unfold _root_.Law.bd
    simp only
    split <;> split <;> omega⟩)
  -- no grips
  obtain ⟨many, hmany, hmn0⟩ := at4 (P := fun t => 0 ≤ t) (x := 0) (y := 1) (z := ds.getD 7 0) (u := 10 ^ 20) (i := ds.getD 8 0 % 4) (by omega) (by omega) (by decide) (by decide) (bd 7 (by decide)).1 (by decide)
  obtain ⟨tp, qp, e1, e2⟩ := plain_ok (most := most) (many := many) hp hp2 l1 hl hw
  have tw := turn_wear_ok (gs := []) hp (by omega) hl hw q
  rw [Tw_nil] at tw
  have ob := Tw_its (gs := []) hp (by omega) l1 hl hw q
  rw [Tw_nil] at ob
  generalize hon : (ws.map fun w => w.2.1).sum = once at *
  have mm1 : mulOk many once := mulOk_r (by omega) (by omega)
  have mm2 : mulOk many p := mulOk_r (by omega) (by omega)
  have lko := like_refl 8 (.int once) trivial
  have lkp := like_refl 8 (pr (tp + many * p, qp)) (plain_pr (k := 6) _)
  have nta : ¬ (ta > t) := by omega
  have ntb : ¬ (tb > t) := by omega
  have ge1 : gs.length + ex.length ≤ sizeLine := by rw [line_eq]; omega
  have wl : ws.length ≤ sizeLine := by rw [line_eq]; omega
  have hid : (ws.map g).map s3 = ws.map fun w => .tuple [.int w.1, .int (w.2.1 + (if decide (w.1 = w0.1) = true then 1 else 0)), .int w.2.2] := by rw [List.map_map, hg]; rfl
  have honm : (ws.map fun w => PyData.int w.2.1) = (ws.map fun w => w.2.1).map .int := by rw [List.map_map]; rfl
  unfold m_law b_law
  rw [fn_go (n := 1) rfl]
  change bodyOut (sThen _ _ [some (.val (.list (ns.map .int))), none, none, none, none, none, none, none, none, none, none, none, none, none, none, none, none, none, none, none, none, none, none, none]) = _
  rw [st_set (d := li ds) (by simp (disch := omega) only [hd, bind_ok, bind_bad, bind_exc, at_ok, at_exc, ofO_some, oS_some, nox_okk, g_v, g_s, go_v, go_s, ga_v, ga_o, ga_s, s_z, s_s, fz_o, fz_v, fz_s, e_mGet, e_mC, e_m2, e_m1, e_mT, e_mB, e_mAndB, e_mOrB, e_mNotB, e_mAnd, e_mOr, e_mIf, e_mChain, e_mNil, e_mCons, e_mSeq, e_mCall, e_mNo, e_mPart, e_mCut, e_mIs, e_mIs2, e_mL, e_mDsp, e_mRep, e_mBind, e_mIxO, e_mBor, e_mBorB, e_mItems, e_mWk, e_mRev, e_mYes, e_mLc, e_gN, e_gE, e_gC, e_gTt, e_gTl, e_sNx, e_sThen, e_sDrop, e_sRet, e_sSet, e_sIf, e_sFor, e_sAsg, e_sPar, e_sSetO, e_sSetL, e_ownAt, e_freeze, e_sApp, e_sSetIx, e_sAugIx, e_sAug, e_sPop, e_sPopTo, e_fnM, e_bo_rt, e_bo_nx, e_bo_exc, e_startE, e_wipe0, e_wipe1, d_add, d_addib, d_addl, d_addt, d_sub, d_mul, d_div, d_mod, d_pow, d_cmp, d_neg, d_not, d_iadd, d_iop, d_toB, d_toI, d_trB, d_trI, d_trN, d_trL, d_trT, d_lenL, d_lenT, d_intI, d_intB, d_abs, d_gcd, d_max2, d_min2, d_sumI, d_anyB, d_allB, d_maxL, d_minL, d_listL, d_listT, d_tupL, d_tupT, d_idxL, d_idxT, d_lstL, d_lstT, d_revL, d_itL, d_itT, d_rng1, d_rng2, d_enum1, d_zip2, d_rev1L, d_rev1T, d_cutL, d_cutT, d_rep, d_mTup, d_mLst, d_setD, d_scN, d_scB, d_scI, d_scS, d_isN, d_isNN, d_nN, d_nB, d_nI, d_nS, d_nL, d_nT, if_true, if_false, ite_true, ite_false, reduceIte, List.length_cons, List.length_nil, Nat.zero_add, Nat.reduceAdd, Nat.reduceSub, Nat.reduceEqDiff, List.map_cons, List.map_nil, List.cons_append, List.nil_append, List.replicate, Option.map_some, Option.bind_some, Option.some.injEq, Bool.not_true, Bool.not_false, ne_eq, Bool.false_eq_true, Int.reduceEq, Int.reduceLT, Int.reduceLE, Int.reduceNeg, Int.reduceAdd, Int.reduceSub, Int.reduceMul, Int.reduceToNat, Int.toNat_natCast, Nat.reduceLT, Nat.reduceLeDiff, not_false_eq_true, not_true_eq_false, decide_true, decide_false, List.length_map, List.map_append, fmod_pos, fdiv_pos, and_true, true_and, and_self, Bool.and_true, Bool.or_false, Bool.and_false, Bool.or_true, Bool.true_and, Bool.false_and, ty_li_none, ty_li_bool, ty_li_int, ty_li_str, ty_li_list, ty_li_tuple, ty_tu_none, ty_tu_bool, ty_tu_int, ty_tu_str, ty_tu_list, ty_tu_tuple, ty_bo_none, ty_bo_bool, ty_bo_int, ty_bo_str, ty_bo_list, ty_bo_tuple, ty_in_none, ty_in_bool, ty_in_int, ty_in_str, ty_in_list, ty_in_tuple, ty_st_none, ty_st_bool, ty_st_int, ty_st_str, ty_st_list, ty_st_tuple, eq_int, ne_int, eq_bl, ne_bl, eq_st, ne_st, eq_li, ne_li, at_0, at_1, at_2, at_3, at_4, at_5, in_li, notin_li, c_z, c_s, gx_v, gx_s, e_mIsX, e_sTry, tc_ok, tc_exc, cm_nil, cm_cons, ex_ok, dx_nil, dx_v, dx_o, dx_x, dx_n, at_exx, Int.cast_ofNat_Int, e_mLrg1, e_mLrg2, d_lrg])]; simp only [s_s, s_z]
  rw [st_set (d := lo p ws gs) (by simp (disch := omega) only [atI_li, hlen, h4s, mz, hM, hlp, bind_ok, bind_bad, bind_exc, at_ok, at_exc, ofO_some, oS_some, nox_okk, g_v, g_s, go_v, go_s, ga_v, ga_o, ga_s, s_z, s_s, fz_o, fz_v, fz_s, e_mGet, e_mC, e_m2, e_m1, e_mT, e_mB, e_mAndB, e_mOrB, e_mNotB, e_mAnd, e_mOr, e_mIf, e_mChain, e_mNil, e_mCons, e_mSeq, e_mCall, e_mNo, e_mPart, e_mCut, e_mIs, e_mIs2, e_mL, e_mDsp, e_mRep, e_mBind, e_mIxO, e_mBor, e_mBorB, e_mItems, e_mWk, e_mRev, e_mYes, e_mLc, e_gN, e_gE, e_gC, e_gTt, e_gTl, e_sNx, e_sThen, e_sDrop, e_sRet, e_sSet, e_sIf, e_sFor, e_sAsg, e_sPar, e_sSetO, e_sSetL, e_ownAt, e_freeze, e_sApp, e_sSetIx, e_sAugIx, e_sAug, e_sPop, e_sPopTo, e_fnM, e_bo_rt, e_bo_nx, e_bo_exc, e_startE, e_wipe0, e_wipe1, d_add, d_addib, d_addl, d_addt, d_sub, d_mul, d_div, d_mod, d_pow, d_cmp, d_neg, d_not, d_iadd, d_iop, d_toB, d_toI, d_trB, d_trI, d_trN, d_trL, d_trT, d_lenL, d_lenT, d_intI, d_intB, d_abs, d_gcd, d_max2, d_min2, d_sumI, d_anyB, d_allB, d_maxL, d_minL, d_listL, d_listT, d_tupL, d_tupT, d_idxL, d_idxT, d_lstL, d_lstT, d_revL, d_itL, d_itT, d_rng1, d_rng2, d_enum1, d_zip2, d_rev1L, d_rev1T, d_cutL, d_cutT, d_rep, d_mTup, d_mLst, d_setD, d_scN, d_scB, d_scI, d_scS, d_isN, d_isNN, d_nN, d_nB, d_nI, d_nS, d_nL, d_nT, if_true, if_false, ite_true, ite_false, reduceIte, List.length_cons, List.length_nil, Nat.zero_add, Nat.reduceAdd, Nat.reduceSub, Nat.reduceEqDiff, List.map_cons, List.map_nil, List.cons_append, List.nil_append, List.replicate, Option.map_some, Option.bind_some, Option.some.injEq, Bool.not_true, Bool.not_false, ne_eq, Bool.false_eq_true, Int.reduceEq, Int.reduceLT, Int.reduceLE, Int.reduceNeg, Int.reduceAdd, Int.reduceSub, Int.reduceMul, Int.reduceToNat, Int.toNat_natCast, Nat.reduceLT, Nat.reduceLeDiff, not_false_eq_true, not_true_eq_false, decide_true, decide_false, List.length_map, List.map_append, fmod_pos, fdiv_pos, and_true, true_and, and_self, Bool.and_true, Bool.or_false, Bool.and_false, Bool.or_true, Bool.true_and, Bool.false_and, ty_li_none, ty_li_bool, ty_li_int, ty_li_str, ty_li_list, ty_li_tuple, ty_tu_none, ty_tu_bool, ty_tu_int, ty_tu_str, ty_tu_list, ty_tu_tuple, ty_bo_none, ty_bo_bool, ty_bo_int, ty_bo_str, ty_bo_list, ty_bo_tuple, ty_in_none, ty_in_bool, ty_in_int, ty_in_str, ty_in_list, ty_in_tuple, ty_st_none, ty_st_bool, ty_st_int, ty_st_str, ty_st_list, ty_st_tuple, eq_int, ne_int, eq_bl, ne_bl, eq_st, ne_st, eq_li, ne_li, at_0, at_1, at_2, at_3, at_4, at_5, in_li, notin_li, c_z, c_s, gx_v, gx_s, e_mIsX, e_sTry, tc_ok, tc_exc, cm_nil, cm_cons, ex_ok, dx_nil, dx_v, dx_o, dx_x, dx_n, at_exx, Int.cast_ofNat_Int, e_mLrg1, e_mLrg2, d_lrg])]; simp only [s_s, s_z]
  rw [st_nx (ρ' := [some (.val (.list (ns.map .int))), some (.val (li ds)), some (.val (lo p ws gs)), some (.val (.int p)), some (.val (.list (ws.map s3))), some (.val (li gs)), none, none, none, none, none, none, none, none, none, none, none, none, none, none, none, none, none, none]) (by simp (disch := omega) only [bind_ok, bind_bad, bind_exc, at_ok, at_exc, ofO_some, oS_some, nox_okk, g_v, g_s, go_v, go_s, ga_v, ga_o, ga_s, s_z, s_s, fz_o, fz_v, fz_s, e_mGet, e_mC, e_m2, e_m1, e_mT, e_mB, e_mAndB, e_mOrB, e_mNotB, e_mAnd, e_mOr, e_mIf, e_mChain, e_mNil, e_mCons, e_mSeq, e_mCall, e_mNo, e_mPart, e_mCut, e_mIs, e_mIs2, e_mL, e_mDsp, e_mRep, e_mBind, e_mIxO, e_mBor, e_mBorB, e_mItems, e_mWk, e_mRev, e_mYes, e_mLc, e_gN, e_gE, e_gC, e_gTt, e_gTl, e_sNx, e_sThen, e_sDrop, e_sRet, e_sSet, e_sIf, e_sFor, e_sAsg, e_sPar, e_sSetO, e_sSetL, e_ownAt, e_freeze, e_sApp, e_sSetIx, e_sAugIx, e_sAug, e_sPop, e_sPopTo, e_fnM, e_bo_rt, e_bo_nx, e_bo_exc, e_startE, e_wipe0, e_wipe1, d_add, d_addib, d_addl, d_addt, d_sub, d_mul, d_div, d_mod, d_pow, d_cmp, d_neg, d_not, d_iadd, d_iop, d_toB, d_toI, d_trB, d_trI, d_trN, d_trL, d_trT, d_lenL, d_lenT, d_intI, d_intB, d_abs, d_gcd, d_max2, d_min2, d_sumI, d_anyB, d_allB, d_maxL, d_minL, d_listL, d_listT, d_tupL, d_tupT, d_idxL, d_idxT, d_lstL, d_lstT, d_revL, d_itL, d_itT, d_rng1, d_rng2, d_enum1, d_zip2, d_rev1L, d_rev1T, d_cutL, d_cutT, d_rep, d_mTup, d_mLst, d_setD, d_scN, d_scB, d_scI, d_scS, d_isN, d_isNN, d_nN, d_nB, d_nI, d_nS, d_nL, d_nT, if_true, if_false, ite_true, ite_false, reduceIte, List.length_cons, List.length_nil, Nat.zero_add, Nat.reduceAdd, Nat.reduceSub, Nat.reduceEqDiff, List.map_cons, List.map_nil, List.cons_append, List.nil_append, List.replicate, Option.map_some, Option.bind_some, Option.some.injEq, Bool.not_true, Bool.not_false, ne_eq, Bool.false_eq_true, Int.reduceEq, Int.reduceLT, Int.reduceLE, Int.reduceNeg, Int.reduceAdd, Int.reduceSub, Int.reduceMul, Int.reduceToNat, Int.toNat_natCast, Nat.reduceLT, Nat.reduceLeDiff, not_false_eq_true, not_true_eq_false, decide_true, decide_false, List.length_map, List.map_append, fmod_pos, fdiv_pos, and_true, true_and, and_self, Bool.and_true, Bool.or_false, Bool.and_false, Bool.or_true, Bool.true_and, Bool.false_and, ty_li_none, ty_li_bool, ty_li_int, ty_li_str, ty_li_list, ty_li_tuple, ty_tu_none, ty_tu_bool, ty_tu_int, ty_tu_str, ty_tu_list, ty_tu_tuple, ty_bo_none, ty_bo_bool, ty_bo_int, ty_bo_str, ty_bo_list, ty_bo_tuple, ty_in_none, ty_in_bool, ty_in_int, ty_in_str, ty_in_list, ty_in_tuple, ty_st_none, ty_st_bool, ty_st_int, ty_st_str, ty_st_list, ty_st_tuple, eq_int, ne_int, eq_bl, ne_bl, eq_st, ne_st, eq_li, ne_li, at_0, at_1, at_2, at_3, at_4, at_5, in_li, notin_li, c_z, c_s, gx_v, gx_s, e_mIsX, e_sTry, tc_ok, tc_exc, cm_nil, cm_cons, ex_ok, dx_nil, dx_v, dx_o, dx_x, dx_n, at_exx, Int.cast_ofNat_Int, e_mLrg1, e_mLrg2, d_lrg])]
  rw [st_set (d := .int most) (by simp (disch := omega) only [atI_li, hlen, h4s, hp30, m23, hmo, hmost, bind_ok, bind_bad, bind_exc, at_ok, at_exc, ofO_some, oS_some, nox_okk, g_v, g_s, go_v, go_s, ga_v, ga_o, ga_s, s_z, s_s, fz_o, fz_v, fz_s, e_mGet, e_mC, e_m2, e_m1, e_mT, e_mB, e_mAndB, e_mOrB, e_mNotB, e_mAnd, e_mOr, e_mIf, e_mChain, e_mNil, e_mCons, e_mSeq, e_mCall, e_mNo, e_mPart, e_mCut, e_mIs, e_mIs2, e_mL, e_mDsp, e_mRep, e_mBind, e_mIxO, e_mBor, e_mBorB, e_mItems, e_mWk, e_mRev, e_mYes, e_mLc, e_gN, e_gE, e_gC, e_gTt, e_gTl, e_sNx, e_sThen, e_sDrop, e_sRet, e_sSet, e_sIf, e_sFor, e_sAsg, e_sPar, e_sSetO, e_sSetL, e_ownAt, e_freeze, e_sApp, e_sSetIx, e_sAugIx, e_sAug, e_sPop, e_sPopTo, e_fnM, e_bo_rt, e_bo_nx, e_bo_exc, e_startE, e_wipe0, e_wipe1, d_add, d_addib, d_addl, d_addt, d_sub, d_mul, d_div, d_mod, d_pow, d_cmp, d_neg, d_not, d_iadd, d_iop, d_toB, d_toI, d_trB, d_trI, d_trN, d_trL, d_trT, d_lenL, d_lenT, d_intI, d_intB, d_abs, d_gcd, d_max2, d_min2, d_sumI, d_anyB, d_allB, d_maxL, d_minL, d_listL, d_listT, d_tupL, d_tupT, d_idxL, d_idxT, d_lstL, d_lstT, d_revL, d_itL, d_itT, d_rng1, d_rng2, d_enum1, d_zip2, d_rev1L, d_rev1T, d_cutL, d_cutT, d_rep, d_mTup, d_mLst, d_setD, d_scN, d_scB, d_scI, d_scS, d_isN, d_isNN, d_nN, d_nB, d_nI, d_nS, d_nL, d_nT, if_true, if_false, ite_true, ite_false, reduceIte, List.length_cons, List.length_nil, Nat.zero_add, Nat.reduceAdd, Nat.reduceSub, Nat.reduceEqDiff, List.map_cons, List.map_nil, List.cons_append, List.nil_append, List.replicate, Option.map_some, Option.bind_some, Option.some.injEq, Bool.not_true, Bool.not_false, ne_eq, Bool.false_eq_true, Int.reduceEq, Int.reduceLT, Int.reduceLE, Int.reduceNeg, Int.reduceAdd, Int.reduceSub, Int.reduceMul, Int.reduceToNat, Int.toNat_natCast, Nat.reduceLT, Nat.reduceLeDiff, not_false_eq_true, not_true_eq_false, decide_true, decide_false, List.length_map, List.map_append, fmod_pos, fdiv_pos, and_true, true_and, and_self, Bool.and_true, Bool.or_false, Bool.and_false, Bool.or_true, Bool.true_and, Bool.false_and, ty_li_none, ty_li_bool, ty_li_int, ty_li_str, ty_li_list, ty_li_tuple, ty_tu_none, ty_tu_bool, ty_tu_int, ty_tu_str, ty_tu_list, ty_tu_tuple, ty_bo_none, ty_bo_bool, ty_bo_int, ty_bo_str, ty_bo_list, ty_bo_tuple, ty_in_none, ty_in_bool, ty_in_int, ty_in_str, ty_in_list, ty_in_tuple, ty_st_none, ty_st_bool, ty_st_int, ty_st_str, ty_st_list, ty_st_tuple, eq_int, ne_int, eq_bl, ne_bl, eq_st, ne_st, eq_li, ne_li, at_0, at_1, at_2, at_3, at_4, at_5, in_li, notin_li, c_z, c_s, gx_v, gx_s, e_mIsX, e_sTry, tc_ok, tc_exc, cm_nil, cm_cons, ex_ok, dx_nil, dx_v, dx_o, dx_x, dx_n, at_exx, Int.cast_ofNat_Int, e_mLrg1, e_mLrg2, d_lrg])]; simp only [s_s, s_z]
  rw [st_set (d := pr (t, q)) (by simp (disch := omega) only [f1, bind_ok, bind_bad, bind_exc, at_ok, at_exc, ofO_some, oS_some, nox_okk, g_v, g_s, go_v, go_s, ga_v, ga_o, ga_s, s_z, s_s, fz_o, fz_v, fz_s, e_mGet, e_mC, e_m2, e_m1, e_mT, e_mB, e_mAndB, e_mOrB, e_mNotB, e_mAnd, e_mOr, e_mIf, e_mChain, e_mNil, e_mCons, e_mSeq, e_mCall, e_mNo, e_mPart, e_mCut, e_mIs, e_mIs2, e_mL, e_mDsp, e_mRep, e_mBind, e_mIxO, e_mBor, e_mBorB, e_mItems, e_mWk, e_mRev, e_mYes, e_mLc, e_gN, e_gE, e_gC, e_gTt, e_gTl, e_sNx, e_sThen, e_sDrop, e_sRet, e_sSet, e_sIf, e_sFor, e_sAsg, e_sPar, e_sSetO, e_sSetL, e_ownAt, e_freeze, e_sApp, e_sSetIx, e_sAugIx, e_sAug, e_sPop, e_sPopTo, e_fnM, e_bo_rt, e_bo_nx, e_bo_exc, e_startE, e_wipe0, e_wipe1, d_add, d_addib, d_addl, d_addt, d_sub, d_mul, d_div, d_mod, d_pow, d_cmp, d_neg, d_not, d_iadd, d_iop, d_toB, d_toI, d_trB, d_trI, d_trN, d_trL, d_trT, d_lenL, d_lenT, d_intI, d_intB, d_abs, d_gcd, d_max2, d_min2, d_sumI, d_anyB, d_allB, d_maxL, d_minL, d_listL, d_listT, d_tupL, d_tupT, d_idxL, d_idxT, d_lstL, d_lstT, d_revL, d_itL, d_itT, d_rng1, d_rng2, d_enum1, d_zip2, d_rev1L, d_rev1T, d_cutL, d_cutT, d_rep, d_mTup, d_mLst, d_setD, d_scN, d_scB, d_scI, d_scS, d_isN, d_isNN, d_nN, d_nB, d_nI, d_nS, d_nL, d_nT, if_true, if_false, ite_true, ite_false, reduceIte, List.length_cons, List.length_nil, Nat.zero_add, Nat.reduceAdd, Nat.reduceSub, Nat.reduceEqDiff, List.map_cons, List.map_nil, List.cons_append, List.nil_append, List.replicate, Option.map_some, Option.bind_some, Option.some.injEq, Bool.not_true, Bool.not_false, ne_eq, Bool.false_eq_true, Int.reduceEq, Int.reduceLT, Int.reduceLE, Int.reduceNeg, Int.reduceAdd, Int.reduceSub, Int.reduceMul, Int.reduceToNat, Int.toNat_natCast, Nat.reduceLT, Nat.reduceLeDiff, not_false_eq_true, not_true_eq_false, decide_true, decide_false, List.length_map, List.map_append, fmod_pos, fdiv_pos, and_true, true_and, and_self, Bool.and_true, Bool.or_false, Bool.and_false, Bool.or_true, Bool.true_and, Bool.false_and, ty_li_none, ty_li_bool, ty_li_int, ty_li_str, ty_li_list, ty_li_tuple, ty_tu_none, ty_tu_bool, ty_tu_int, ty_tu_str, ty_tu_list, ty_tu_tuple, ty_bo_none, ty_bo_bool, ty_bo_int, ty_bo_str, ty_bo_list, ty_bo_tuple, ty_in_none, ty_in_bool, ty_in_int, ty_in_str, ty_in_list, ty_in_tuple, ty_st_none, ty_st_bool, ty_st_int, ty_st_str, ty_st_list, ty_st_tuple, eq_int, ne_int, eq_bl, ne_bl, eq_st, ne_st, eq_li, ne_li, at_0, at_1, at_2, at_3, at_4, at_5, in_li, notin_li, c_z, c_s, gx_v, gx_s, e_mIsX, e_sTry, tc_ok, tc_exc, cm_nil, cm_cons, ex_ok, dx_nil, dx_v, dx_o, dx_x, dx_n, at_exx, Int.cast_ofNat_Int, e_mLrg1, e_mLrg2, d_lrg])]; simp only [s_s, s_z]
  rw [st_no (by simp (disch := omega) only [f2, bind_ok, bind_bad, bind_exc, at_ok, at_exc, ofO_some, oS_some, nox_okk, g_v, g_s, go_v, go_s, ga_v, ga_o, ga_s, s_z, s_s, fz_o, fz_v, fz_s, e_mGet, e_mC, e_m2, e_m1, e_mT, e_mB, e_mAndB, e_mOrB, e_mNotB, e_mAnd, e_mOr, e_mIf, e_mChain, e_mNil, e_mCons, e_mSeq, e_mCall, e_mNo, e_mPart, e_mCut, e_mIs, e_mIs2, e_mL, e_mDsp, e_mRep, e_mBind, e_mIxO, e_mBor, e_mBorB, e_mItems, e_mWk, e_mRev, e_mYes, e_mLc, e_gN, e_gE, e_gC, e_gTt, e_gTl, e_sNx, e_sThen, e_sDrop, e_sRet, e_sSet, e_sIf, e_sFor, e_sAsg, e_sPar, e_sSetO, e_sSetL, e_ownAt, e_freeze, e_sApp, e_sSetIx, e_sAugIx, e_sAug, e_sPop, e_sPopTo, e_fnM, e_bo_rt, e_bo_nx, e_bo_exc, e_startE, e_wipe0, e_wipe1, d_add, d_addib, d_addl, d_addt, d_sub, d_mul, d_div, d_mod, d_pow, d_cmp, d_neg, d_not, d_iadd, d_iop, d_toB, d_toI, d_trB, d_trI, d_trN, d_trL, d_trT, d_lenL, d_lenT, d_intI, d_intB, d_abs, d_gcd, d_max2, d_min2, d_sumI, d_anyB, d_allB, d_maxL, d_minL, d_listL, d_listT, d_tupL, d_tupT, d_idxL, d_idxT, d_lstL, d_lstT, d_revL, d_itL, d_itT, d_rng1, d_rng2, d_enum1, d_zip2, d_rev1L, d_rev1T, d_cutL, d_cutT, d_rep, d_mTup, d_mLst, d_setD, d_scN, d_scB, d_scI, d_scS, d_isN, d_isNN, d_nN, d_nB, d_nI, d_nS, d_nL, d_nT, if_true, if_false, ite_true, ite_false, reduceIte, List.length_cons, List.length_nil, Nat.zero_add, Nat.reduceAdd, Nat.reduceSub, Nat.reduceEqDiff, List.map_cons, List.map_nil, List.cons_append, List.nil_append, List.replicate, Option.map_some, Option.bind_some, Option.some.injEq, Bool.not_true, Bool.not_false, ne_eq, Bool.false_eq_true, Int.reduceEq, Int.reduceLT, Int.reduceLE, Int.reduceNeg, Int.reduceAdd, Int.reduceSub, Int.reduceMul, Int.reduceToNat, Int.toNat_natCast, Nat.reduceLT, Nat.reduceLeDiff, not_false_eq_true, not_true_eq_false, decide_true, decide_false, List.length_map, List.map_append, fmod_pos, fdiv_pos, and_true, true_and, and_self, Bool.and_true, Bool.or_false, Bool.and_false, Bool.or_true, Bool.true_and, Bool.false_and, ty_li_none, ty_li_bool, ty_li_int, ty_li_str, ty_li_list, ty_li_tuple, ty_tu_none, ty_tu_bool, ty_tu_int, ty_tu_str, ty_tu_list, ty_tu_tuple, ty_bo_none, ty_bo_bool, ty_bo_int, ty_bo_str, ty_bo_list, ty_bo_tuple, ty_in_none, ty_in_bool, ty_in_int, ty_in_str, ty_in_list, ty_in_tuple, ty_st_none, ty_st_bool, ty_st_int, ty_st_str, ty_st_list, ty_st_tuple, eq_int, ne_int, eq_bl, ne_bl, eq_st, ne_st, eq_li, ne_li, at_0, at_1, at_2, at_3, at_4, at_5, in_li, notin_li, c_z, c_s, gx_v, gx_s, e_mIsX, e_sTry, tc_ok, tc_exc, cm_nil, cm_cons, ex_ok, dx_nil, dx_v, dx_o, dx_x, dx_n, at_exx, Int.cast_ofNat_Int, e_mLrg1, e_mLrg2, d_lrg])]
  rw [st_set (d := pr (t2, q2)) (by simp (disch := omega) only [g1, bind_ok, bind_bad, bind_exc, at_ok, at_exc, ofO_some, oS_some, nox_okk, g_v, g_s, go_v, go_s, ga_v, ga_o, ga_s, s_z, s_s, fz_o, fz_v, fz_s, e_mGet, e_mC, e_m2, e_m1, e_mT, e_mB, e_mAndB, e_mOrB, e_mNotB, e_mAnd, e_mOr, e_mIf, e_mChain, e_mNil, e_mCons, e_mSeq, e_mCall, e_mNo, e_mPart, e_mCut, e_mIs, e_mIs2, e_mL, e_mDsp, e_mRep, e_mBind, e_mIxO, e_mBor, e_mBorB, e_mItems, e_mWk, e_mRev, e_mYes, e_mLc, e_gN, e_gE, e_gC, e_gTt, e_gTl, e_sNx, e_sThen, e_sDrop, e_sRet, e_sSet, e_sIf, e_sFor, e_sAsg, e_sPar, e_sSetO, e_sSetL, e_ownAt, e_freeze, e_sApp, e_sSetIx, e_sAugIx, e_sAug, e_sPop, e_sPopTo, e_fnM, e_bo_rt, e_bo_nx, e_bo_exc, e_startE, e_wipe0, e_wipe1, d_add, d_addib, d_addl, d_addt, d_sub, d_mul, d_div, d_mod, d_pow, d_cmp, d_neg, d_not, d_iadd, d_iop, d_toB, d_toI, d_trB, d_trI, d_trN, d_trL, d_trT, d_lenL, d_lenT, d_intI, d_intB, d_abs, d_gcd, d_max2, d_min2, d_sumI, d_anyB, d_allB, d_maxL, d_minL, d_listL, d_listT, d_tupL, d_tupT, d_idxL, d_idxT, d_lstL, d_lstT, d_revL, d_itL, d_itT, d_rng1, d_rng2, d_enum1, d_zip2, d_rev1L, d_rev1T, d_cutL, d_cutT, d_rep, d_mTup, d_mLst, d_setD, d_scN, d_scB, d_scI, d_scS, d_isN, d_isNN, d_nN, d_nB, d_nI, d_nS, d_nL, d_nT, if_true, if_false, ite_true, ite_false, reduceIte, List.length_cons, List.length_nil, Nat.zero_add, Nat.reduceAdd, Nat.reduceSub, Nat.reduceEqDiff, List.map_cons, List.map_nil, List.cons_append, List.nil_append, List.replicate, Option.map_some, Option.bind_some, Option.some.injEq, Bool.not_true, Bool.not_false, ne_eq, Bool.false_eq_true, Int.reduceEq, Int.reduceLT, Int.reduceLE, Int.reduceNeg, Int.reduceAdd, Int.reduceSub, Int.reduceMul, Int.reduceToNat, Int.toNat_natCast, Nat.reduceLT, Nat.reduceLeDiff, not_false_eq_true, not_true_eq_false, decide_true, decide_false, List.length_map, List.map_append, fmod_pos, fdiv_pos, and_true, true_and, and_self, Bool.and_true, Bool.or_false, Bool.and_false, Bool.or_true, Bool.true_and, Bool.false_and, ty_li_none, ty_li_bool, ty_li_int, ty_li_str, ty_li_list, ty_li_tuple, ty_tu_none, ty_tu_bool, ty_tu_int, ty_tu_str, ty_tu_list, ty_tu_tuple, ty_bo_none, ty_bo_bool, ty_bo_int, ty_bo_str, ty_bo_list, ty_bo_tuple, ty_in_none, ty_in_bool, ty_in_int, ty_in_str, ty_in_list, ty_in_tuple, ty_st_none, ty_st_bool, ty_st_int, ty_st_str, ty_st_list, ty_st_tuple, eq_int, ne_int, eq_bl, ne_bl, eq_st, ne_st, eq_li, ne_li, at_0, at_1, at_2, at_3, at_4, at_5, in_li, notin_li, c_z, c_s, gx_v, gx_s, e_mIsX, e_sTry, tc_ok, tc_exc, cm_nil, cm_cons, ex_ok, dx_nil, dx_v, dx_o, dx_x, dx_n, at_exx, Int.cast_ofNat_Int, e_mLrg1, e_mLrg2, d_lrg])]; simp only [s_s, s_z]
  rw [st_no (by simp (disch := omega) only [g2, nl, bind_ok, bind_bad, bind_exc, at_ok, at_exc, ofO_some, oS_some, nox_okk, g_v, g_s, go_v, go_s, ga_v, ga_o, ga_s, s_z, s_s, fz_o, fz_v, fz_s, e_mGet, e_mC, e_m2, e_m1, e_mT, e_mB, e_mAndB, e_mOrB, e_mNotB, e_mAnd, e_mOr, e_mIf, e_mChain, e_mNil, e_mCons, e_mSeq, e_mCall, e_mNo, e_mPart, e_mCut, e_mIs, e_mIs2, e_mL, e_mDsp, e_mRep, e_mBind, e_mIxO, e_mBor, e_mBorB, e_mItems, e_mWk, e_mRev, e_mYes, e_mLc, e_gN, e_gE, e_gC, e_gTt, e_gTl, e_sNx, e_sThen, e_sDrop, e_sRet, e_sSet, e_sIf, e_sFor, e_sAsg, e_sPar, e_sSetO, e_sSetL, e_ownAt, e_freeze, e_sApp, e_sSetIx, e_sAugIx, e_sAug, e_sPop, e_sPopTo, e_fnM, e_bo_rt, e_bo_nx, e_bo_exc, e_startE, e_wipe0, e_wipe1, d_add, d_addib, d_addl, d_addt, d_sub, d_mul, d_div, d_mod, d_pow, d_cmp, d_neg, d_not, d_iadd, d_iop, d_toB, d_toI, d_trB, d_trI, d_trN, d_trL, d_trT, d_lenL, d_lenT, d_intI, d_intB, d_abs, d_gcd, d_max2, d_min2, d_sumI, d_anyB, d_allB, d_maxL, d_minL, d_listL, d_listT, d_tupL, d_tupT, d_idxL, d_idxT, d_lstL, d_lstT, d_revL, d_itL, d_itT, d_rng1, d_rng2, d_enum1, d_zip2, d_rev1L, d_rev1T, d_cutL, d_cutT, d_rep, d_mTup, d_mLst, d_setD, d_scN, d_scB, d_scI, d_scS, d_isN, d_isNN, d_nN, d_nB, d_nI, d_nS, d_nL, d_nT, if_true, if_false, ite_true, ite_false, reduceIte, List.length_cons, List.length_nil, Nat.zero_add, Nat.reduceAdd, Nat.reduceSub, Nat.reduceEqDiff, List.map_cons, List.map_nil, List.cons_append, List.nil_append, List.replicate, Option.map_some, Option.bind_some, Option.some.injEq, Bool.not_true, Bool.not_false, ne_eq, Bool.false_eq_true, Int.reduceEq, Int.reduceLT, Int.reduceLE, Int.reduceNeg, Int.reduceAdd, Int.reduceSub, Int.reduceMul, Int.reduceToNat, Int.toNat_natCast, Nat.reduceLT, Nat.reduceLeDiff, not_false_eq_true, not_true_eq_false, decide_true, decide_false, List.length_map, List.map_append, fmod_pos, fdiv_pos, and_true, true_and, and_self, Bool.and_true, Bool.or_false, Bool.and_false, Bool.or_true, Bool.true_and, Bool.false_and, ty_li_none, ty_li_bool, ty_li_int, ty_li_str, ty_li_list, ty_li_tuple, ty_tu_none, ty_tu_bool, ty_tu_int, ty_tu_str, ty_tu_list, ty_tu_tuple, ty_bo_none, ty_bo_bool, ty_bo_int, ty_bo_str, ty_bo_list, ty_bo_tuple, ty_in_none, ty_in_bool, ty_in_int, ty_in_str, ty_in_list, ty_in_tuple, ty_st_none, ty_st_bool, ty_st_int, ty_st_str, ty_st_list, ty_st_tuple, eq_int, ne_int, eq_bl, ne_bl, eq_st, ne_st, eq_li, ne_li, at_0, at_1, at_2, at_3, at_4, at_5, in_li, notin_li, c_z, c_s, gx_v, gx_s, e_mIsX, e_sTry, tc_ok, tc_exc, cm_nil, cm_cons, ex_ok, dx_nil, dx_v, dx_o, dx_x, dx_n, at_exx, Int.cast_ofNat_Int, e_mLrg1, e_mLrg2, d_lrg])]
  rw [st_set (d := li gm) (by
    simp (disch := omega) only [atI_li, hlen, p0, h1s, bind_ok, bind_bad, bind_exc, at_ok, at_exc, ofO_some, oS_some, nox_okk, g_v, g_s, go_v, go_s, ga_v, ga_o, ga_s, s_z, s_s, fz_o, fz_v, fz_s, e_mGet, e_mC, e_m2, e_m1, e_mT, e_mB, e_mAndB, e_mOrB, e_mNotB, e_mAnd, e_mOr, e_mIf, e_mChain, e_mNil, e_mCons, e_mSeq, e_mCall, e_mNo, e_mPart, e_mCut, e_mIs, e_mIs2, e_mL, e_mDsp, e_mRep, e_mBind, e_mIxO, e_mBor, e_mBorB, e_mItems, e_mWk, e_mRev, e_mYes, e_mLc, e_gN, e_gE, e_gC, e_gTt, e_gTl, e_sNx, e_sThen, e_sDrop, e_sRet, e_sSet, e_sIf, e_sFor, e_sAsg, e_sPar, e_sSetO, e_sSetL, e_ownAt, e_freeze, e_sApp, e_sSetIx, e_sAugIx, e_sAug, e_sPop, e_sPopTo, e_fnM, e_bo_rt, e_bo_nx, e_bo_exc, e_startE, e_wipe0, e_wipe1, d_add, d_addib, d_addl, d_addt, d_sub, d_mul, d_div, d_mod, d_pow, d_cmp, d_neg, d_not, d_iadd, d_iop, d_toB, d_toI, d_trB, d_trI, d_trN, d_trL, d_trT, d_lenL, d_lenT, d_intI, d_intB, d_abs, d_gcd, d_max2, d_min2, d_sumI, d_anyB, d_allB, d_maxL, d_minL, d_listL, d_listT, d_tupL, d_tupT, d_idxL, d_idxT, d_lstL, d_lstT, d_revL, d_itL, d_itT, d_rng1, d_rng2, d_enum1, d_zip2, d_rev1L, d_rev1T, d_cutL, d_cutT, d_rep, d_mTup, d_mLst, d_setD, d_scN, d_scB, d_scI, d_scS, d_isN, d_isNN, d_nN, d_nB, d_nI, d_nS, d_nL, d_nT, if_true, if_false, ite_true, ite_false, reduceIte, List.length_cons, List.length_nil, Nat.zero_add, Nat.reduceAdd, Nat.reduceSub, Nat.reduceEqDiff, List.map_cons, List.map_nil, List.cons_append, List.nil_append, List.replicate, Option.map_some, Option.bind_some, Option.some.injEq, Bool.not_true, Bool.not_false, ne_eq, Bool.false_eq_true, Int.reduceEq, Int.reduceLT, Int.reduceLE, Int.reduceNeg, Int.reduceAdd, Int.reduceSub, Int.reduceMul, Int.reduceToNat, Int.toNat_natCast, Nat.reduceLT, Nat.reduceLeDiff, not_false_eq_true, not_true_eq_false, decide_true, decide_false, List.length_map, List.map_append, fmod_pos, fdiv_pos, and_true, true_and, and_self, Bool.and_true, Bool.or_false, Bool.and_false, Bool.or_true, Bool.true_and, Bool.false_and, ty_li_none, ty_li_bool, ty_li_int, ty_li_str, ty_li_list, ty_li_tuple, ty_tu_none, ty_tu_bool, ty_tu_int, ty_tu_str, ty_tu_list, ty_tu_tuple, ty_bo_none, ty_bo_bool, ty_bo_int, ty_bo_str, ty_bo_list, ty_bo_tuple, ty_in_none, ty_in_bool, ty_in_int, ty_in_str, ty_in_list, ty_in_tuple, ty_st_none, ty_st_bool, ty_st_int, ty_st_str, ty_st_list, ty_st_tuple, eq_int, ne_int, eq_bl, ne_bl, eq_st, ne_st, eq_li, ne_li, at_0, at_1, at_2, at_3, at_4, at_5, in_li, notin_li, c_z, c_s, gx_v, gx_s, e_mIsX, e_sTry, tc_ok, tc_exc, cm_nil, cm_cons, ex_ok, dx_nil, dx_v, dx_o, dx_x, dx_n, at_exx, Int.cast_ofNat_Int, e_mLrg1, e_mLrg2, d_lrg]
    have e := lcM_lip (i := 10) (t := mB (m2 pNotIn (mGet 10) (mGet 5))) (e := mGet 10) (ns := [ds.getD 5 0 % p]) (ρ := [some (.val (.list (ns.map .int))), some (.val (li ds)), some (.val (lo p ws gs)), some (.val (.int p)), some (.val (.list (ws.map s3))), some (.val (li gs)), some (.val (.int most)), some (.val (pr (t, q))), some (.val (pr (t2, q2))), none, none, none, none, none, none, none, none, none, none, none, none, none, none, none]) (fun x => !decide (x ∈ gs)) (fun x => .int x) (fun x _ => by simp (disch := omega) only [bind_ok, bind_bad, bind_exc, at_ok, at_exc, ofO_some, oS_some, nox_okk, g_v, g_s, go_v, go_s, ga_v, ga_o, ga_s, s_z, s_s, fz_o, fz_v, fz_s, e_mGet, e_mC, e_m2, e_m1, e_mT, e_mB, e_mAndB, e_mOrB, e_mNotB, e_mAnd, e_mOr, e_mIf, e_mChain, e_mNil, e_mCons, e_mSeq, e_mCall, e_mNo, e_mPart, e_mCut, e_mIs, e_mIs2, e_mL, e_mDsp, e_mRep, e_mBind, e_mIxO, e_mBor, e_mBorB, e_mItems, e_mWk, e_mRev, e_mYes, e_mLc, e_gN, e_gE, e_gC, e_gTt, e_gTl, e_sNx, e_sThen, e_sDrop, e_sRet, e_sSet, e_sIf, e_sFor, e_sAsg, e_sPar, e_sSetO, e_sSetL, e_ownAt, e_freeze, e_sApp, e_sSetIx, e_sAugIx, e_sAug, e_sPop, e_sPopTo, e_fnM, e_bo_rt, e_bo_nx, e_bo_exc, e_startE, e_wipe0, e_wipe1, d_add, d_addib, d_addl, d_addt, d_sub, d_mul, d_div, d_mod, d_pow, d_cmp, d_neg, d_not, d_iadd, d_iop, d_toB, d_toI, d_trB, d_trI, d_trN, d_trL, d_trT, d_lenL, d_lenT, d_intI, d_intB, d_abs, d_gcd, d_max2, d_min2, d_sumI, d_anyB, d_allB, d_maxL, d_minL, d_listL, d_listT, d_tupL, d_tupT, d_idxL, d_idxT, d_lstL, d_lstT, d_revL, d_itL, d_itT, d_rng1, d_rng2, d_enum1, d_zip2, d_rev1L, d_rev1T, d_cutL, d_cutT, d_rep, d_mTup, d_mLst, d_setD, d_scN, d_scB, d_scI, d_scS, d_isN, d_isNN, d_nN, d_nB, d_nI, d_nS, d_nL, d_nT, if_true, if_false, ite_true, ite_false, reduceIte, List.length_cons, List.length_nil, Nat.zero_add, Nat.reduceAdd, Nat.reduceSub, Nat.reduceEqDiff, List.map_cons, List.map_nil, List.cons_append, List.nil_append, List.replicate, Option.map_some, Option.bind_some, Option.some.injEq, Bool.not_true, Bool.not_false, ne_eq, Bool.false_eq_true, Int.reduceEq, Int.reduceLT, Int.reduceLE, Int.reduceNeg, Int.reduceAdd, Int.reduceSub, Int.reduceMul, Int.reduceToNat, Int.toNat_natCast, Nat.reduceLT, Nat.reduceLeDiff, not_false_eq_true, not_true_eq_false, decide_true, decide_false, List.length_map, List.map_append, fmod_pos, fdiv_pos, and_true, true_and, and_self, Bool.and_true, Bool.or_false, Bool.and_false, Bool.or_true, Bool.true_and, Bool.false_and, ty_li_none, ty_li_bool, ty_li_int, ty_li_str, ty_li_list, ty_li_tuple, ty_tu_none, ty_tu_bool, ty_tu_int, ty_tu_str, ty_tu_list, ty_tu_tuple, ty_bo_none, ty_bo_bool, ty_bo_int, ty_bo_str, ty_bo_list, ty_bo_tuple, ty_in_none, ty_in_bool, ty_in_int, ty_in_str, ty_in_list, ty_in_tuple, ty_st_none, ty_st_bool, ty_st_int, ty_st_str, ty_st_list, ty_st_tuple, eq_int, ne_int, eq_bl, ne_bl, eq_st, ne_st, eq_li, ne_li, at_0, at_1, at_2, at_3, at_4, at_5, in_li, notin_li, c_z, c_s, gx_v, gx_s, e_mIsX, e_sTry, tc_ok, tc_exc, cm_nil, cm_cons, ex_ok, dx_nil, dx_v, dx_o, dx_x, dx_n, at_exx, Int.cast_ofNat_Int, e_mLrg1, e_mLrg2, d_lrg]) (fun x _ _ => by simp (disch := omega) only [bind_ok, bind_bad, bind_exc, at_ok, at_exc, ofO_some, oS_some, nox_okk, g_v, g_s, go_v, go_s, ga_v, ga_o, ga_s, s_z, s_s, fz_o, fz_v, fz_s, e_mGet, e_mC, e_m2, e_m1, e_mT, e_mB, e_mAndB, e_mOrB, e_mNotB, e_mAnd, e_mOr, e_mIf, e_mChain, e_mNil, e_mCons, e_mSeq, e_mCall, e_mNo, e_mPart, e_mCut, e_mIs, e_mIs2, e_mL, e_mDsp, e_mRep, e_mBind, e_mIxO, e_mBor, e_mBorB, e_mItems, e_mWk, e_mRev, e_mYes, e_mLc, e_gN, e_gE, e_gC, e_gTt, e_gTl, e_sNx, e_sThen, e_sDrop, e_sRet, e_sSet, e_sIf, e_sFor, e_sAsg, e_sPar, e_sSetO, e_sSetL, e_ownAt, e_freeze, e_sApp, e_sSetIx, e_sAugIx, e_sAug, e_sPop, e_sPopTo, e_fnM, e_bo_rt, e_bo_nx, e_bo_exc, e_startE, e_wipe0, e_wipe1, d_add, d_addib, d_addl, d_addt, d_sub, d_mul, d_div, d_mod, d_pow, d_cmp, d_neg, d_not, d_iadd, d_iop, d_toB, d_toI, d_trB, d_trI, d_trN, d_trL, d_trT, d_lenL, d_lenT, d_intI, d_intB, d_abs, d_gcd, d_max2, d_min2, d_sumI, d_anyB, d_allB, d_maxL, d_minL, d_listL, d_listT, d_tupL, d_tupT, d_idxL, d_idxT, d_lstL, d_lstT, d_revL, d_itL, d_itT, d_rng1, d_rng2, d_enum1, d_zip2, d_rev1L, d_rev1T, d_cutL, d_cutT, d_rep, d_mTup, d_mLst, d_setD, d_scN, d_scB, d_scI, d_scS, d_isN, d_isNN, d_nN, d_nB, d_nI, d_nS, d_nL, d_nT, if_true, if_false, ite_true, ite_false, reduceIte, List.length_cons, List.length_nil, Nat.zero_add, Nat.reduceAdd, Nat.reduceSub, Nat.reduceEqDiff, List.map_cons, List.map_nil, List.cons_append, List.nil_append, List.replicate, Option.map_some, Option.bind_some, Option.some.injEq, Bool.not_true, Bool.not_false, ne_eq, Bool.false_eq_true, Int.reduceEq, Int.reduceLT, Int.reduceLE, Int.reduceNeg, Int.reduceAdd, Int.reduceSub, Int.reduceMul, Int.reduceToNat, Int.toNat_natCast, Nat.reduceLT, Nat.reduceLeDiff, not_false_eq_true, not_true_eq_false, decide_true, decide_false, List.length_map, List.map_append, fmod_pos, fdiv_pos, and_true, true_and, and_self, Bool.and_true, Bool.or_false, Bool.and_false, Bool.or_true, Bool.true_and, Bool.false_and, ty_li_none, ty_li_bool, ty_li_int, ty_li_str, ty_li_list, ty_li_tuple, ty_tu_none, ty_tu_bool, ty_tu_int, ty_tu_str, ty_tu_list, ty_tu_tuple, ty_bo_none, ty_bo_bool, ty_bo_int, ty_bo_str, ty_bo_list, ty_bo_tuple, ty_in_none, ty_in_bool, ty_in_int, ty_in_str, ty_in_list, ty_in_tuple, ty_st_none, ty_st_bool, ty_st_int, ty_st_str, ty_st_list, ty_st_tuple, eq_int, ne_int, eq_bl, ne_bl, eq_st, ne_st, eq_li, ne_li, at_0, at_1, at_2, at_3, at_4, at_5, in_li, notin_li, c_z, c_s, gx_v, gx_s, e_mIsX, e_sTry, tc_ok, tc_exc, cm_nil, cm_cons, ex_ok, dx_nil, dx_v, dx_o, dx_x, dx_n, at_exx, Int.cast_ofNat_Int, e_mLrg1, e_mLrg2, d_lrg])
    rw [hex] at e
    have e' : lcM (gN 10) (mB (m2 pNotIn (mGet 10) (mGet 5))) (mGet 10) _ [.int (ds.getD 5 0 % p)] = _ := e
    rw [e']
    have e2 : ex.map (fun x => PyData.int x) = ex.map .int := rfl
    rw [e2]
    simp (disch := omega) only [ge1, bind_ok, bind_bad, bind_exc, at_ok, at_exc, ofO_some, oS_some, nox_okk, g_v, g_s, go_v, go_s, ga_v, ga_o, ga_s, s_z, s_s, fz_o, fz_v, fz_s, e_mGet, e_mC, e_m2, e_m1, e_mT, e_mB, e_mAndB, e_mOrB, e_mNotB, e_mAnd, e_mOr, e_mIf, e_mChain, e_mNil, e_mCons, e_mSeq, e_mCall, e_mNo, e_mPart, e_mCut, e_mIs, e_mIs2, e_mL, e_mDsp, e_mRep, e_mBind, e_mIxO, e_mBor, e_mBorB, e_mItems, e_mWk, e_mRev, e_mYes, e_mLc, e_gN, e_gE, e_gC, e_gTt, e_gTl, e_sNx, e_sThen, e_sDrop, e_sRet, e_sSet, e_sIf, e_sFor, e_sAsg, e_sPar, e_sSetO, e_sSetL, e_ownAt, e_freeze, e_sApp, e_sSetIx, e_sAugIx, e_sAug, e_sPop, e_sPopTo, e_fnM, e_bo_rt, e_bo_nx, e_bo_exc, e_startE, e_wipe0, e_wipe1, d_add, d_addib, d_addl, d_addt, d_sub, d_mul, d_div, d_mod, d_pow, d_cmp, d_neg, d_not, d_iadd, d_iop, d_toB, d_toI, d_trB, d_trI, d_trN, d_trL, d_trT, d_lenL, d_lenT, d_intI, d_intB, d_abs, d_gcd, d_max2, d_min2, d_sumI, d_anyB, d_allB, d_maxL, d_minL, d_listL, d_listT, d_tupL, d_tupT, d_idxL, d_idxT, d_lstL, d_lstT, d_revL, d_itL, d_itT, d_rng1, d_rng2, d_enum1, d_zip2, d_rev1L, d_rev1T, d_cutL, d_cutT, d_rep, d_mTup, d_mLst, d_setD, d_scN, d_scB, d_scI, d_scS, d_isN, d_isNN, d_nN, d_nB, d_nI, d_nS, d_nL, d_nT, if_true, if_false, ite_true, ite_false, reduceIte, List.length_cons, List.length_nil, Nat.zero_add, Nat.reduceAdd, Nat.reduceSub, Nat.reduceEqDiff, List.map_cons, List.map_nil, List.cons_append, List.nil_append, List.replicate, Option.map_some, Option.bind_some, Option.some.injEq, Bool.not_true, Bool.not_false, ne_eq, Bool.false_eq_true, Int.reduceEq, Int.reduceLT, Int.reduceLE, Int.reduceNeg, Int.reduceAdd, Int.reduceSub, Int.reduceMul, Int.reduceToNat, Int.toNat_natCast, Nat.reduceLT, Nat.reduceLeDiff, not_false_eq_true, not_true_eq_false, decide_true, decide_false, List.length_map, List.map_append, fmod_pos, fdiv_pos, and_true, true_and, and_self, Bool.and_true, Bool.or_false, Bool.and_false, Bool.or_true, Bool.true_and, Bool.false_and, ty_li_none, ty_li_bool, ty_li_int, ty_li_str, ty_li_list, ty_li_tuple, ty_tu_none, ty_tu_bool, ty_tu_int, ty_tu_str, ty_tu_list, ty_tu_tuple, ty_bo_none, ty_bo_bool, ty_bo_int, ty_bo_str, ty_bo_list, ty_bo_tuple, ty_in_none, ty_in_bool, ty_in_int, ty_in_str, ty_in_list, ty_in_tuple, ty_st_none, ty_st_bool, ty_st_int, ty_st_str, ty_st_list, ty_st_tuple, eq_int, ne_int, eq_bl, ne_bl, eq_st, ne_st, eq_li, ne_li, at_0, at_1, at_2, at_3, at_4, at_5, in_li, notin_li, c_z, c_s, gx_v, gx_s, e_mIsX, e_sTry, tc_ok, tc_exc, cm_nil, cm_cons, ex_ok, dx_nil, dx_v, dx_o, dx_x, dx_n, at_exx, Int.cast_ofNat_Int, e_mLrg1, e_mLrg2, d_lrg]
    rw [← List.map_append, hsort]
    rfl)]
  simp only [s_s, s_z]
  rw [st_nx (ρ' := [some (.val (.list (ns.map .int))), some (.val (li ds)), some (.val (lo p ws gs)), some (.val (.int p)), some (.val (.list (ws.map s3))), some (.val (li gs)), some (.val (.int most)), some (.val (pr (t, q))), some (.val (pr (t2, q2))), some (.val (li gm)), none, some (.val (.int w0.1)), some (.val (.int w0.2.1)), some (.val (.int w0.2.2)), none, none, none, none, none, none, none, none, none, none]) (by simp (disch := omega) only [atI_li, hlen, len0, hat0, bind_ok, bind_bad, bind_exc, at_ok, at_exc, ofO_some, oS_some, nox_okk, g_v, g_s, go_v, go_s, ga_v, ga_o, ga_s, s_z, s_s, fz_o, fz_v, fz_s, e_mGet, e_mC, e_m2, e_m1, e_mT, e_mB, e_mAndB, e_mOrB, e_mNotB, e_mAnd, e_mOr, e_mIf, e_mChain, e_mNil, e_mCons, e_mSeq, e_mCall, e_mNo, e_mPart, e_mCut, e_mIs, e_mIs2, e_mL, e_mDsp, e_mRep, e_mBind, e_mIxO, e_mBor, e_mBorB, e_mItems, e_mWk, e_mRev, e_mYes, e_mLc, e_gN, e_gE, e_gC, e_gTt, e_gTl, e_sNx, e_sThen, e_sDrop, e_sRet, e_sSet, e_sIf, e_sFor, e_sAsg, e_sPar, e_sSetO, e_sSetL, e_ownAt, e_freeze, e_sApp, e_sSetIx, e_sAugIx, e_sAug, e_sPop, e_sPopTo, e_fnM, e_bo_rt, e_bo_nx, e_bo_exc, e_startE, e_wipe0, e_wipe1, d_add, d_addib, d_addl, d_addt, d_sub, d_mul, d_div, d_mod, d_pow, d_cmp, d_neg, d_not, d_iadd, d_iop, d_toB, d_toI, d_trB, d_trI, d_trN, d_trL, d_trT, d_lenL, d_lenT, d_intI, d_intB, d_abs, d_gcd, d_max2, d_min2, d_sumI, d_anyB, d_allB, d_maxL, d_minL, d_listL, d_listT, d_tupL, d_tupT, d_idxL, d_idxT, d_lstL, d_lstT, d_revL, d_itL, d_itT, d_rng1, d_rng2, d_enum1, d_zip2, d_rev1L, d_rev1T, d_cutL, d_cutT, d_rep, d_mTup, d_mLst, d_setD, d_scN, d_scB, d_scI, d_scS, d_isN, d_isNN, d_nN, d_nB, d_nI, d_nS, d_nL, d_nT, if_true, if_false, ite_true, ite_false, reduceIte, List.length_cons, List.length_nil, Nat.zero_add, Nat.reduceAdd, Nat.reduceSub, Nat.reduceEqDiff, List.map_cons, List.map_nil, List.cons_append, List.nil_append, List.replicate, Option.map_some, Option.bind_some, Option.some.injEq, Bool.not_true, Bool.not_false, ne_eq, Bool.false_eq_true, Int.reduceEq, Int.reduceLT, Int.reduceLE, Int.reduceNeg, Int.reduceAdd, Int.reduceSub, Int.reduceMul, Int.reduceToNat, Int.toNat_natCast, Nat.reduceLT, Nat.reduceLeDiff, not_false_eq_true, not_true_eq_false, decide_true, decide_false, List.length_map, List.map_append, fmod_pos, fdiv_pos, and_true, true_and, and_self, Bool.and_true, Bool.or_false, Bool.and_false, Bool.or_true, Bool.true_and, Bool.false_and, ty_li_none, ty_li_bool, ty_li_int, ty_li_str, ty_li_list, ty_li_tuple, ty_tu_none, ty_tu_bool, ty_tu_int, ty_tu_str, ty_tu_list, ty_tu_tuple, ty_bo_none, ty_bo_bool, ty_bo_int, ty_bo_str, ty_bo_list, ty_bo_tuple, ty_in_none, ty_in_bool, ty_in_int, ty_in_str, ty_in_list, ty_in_tuple, ty_st_none, ty_st_bool, ty_st_int, ty_st_str, ty_st_list, ty_st_tuple, eq_int, ne_int, eq_bl, ne_bl, eq_st, ne_st, eq_li, ne_li, at_0, at_1, at_2, at_3, at_4, at_5, in_li, notin_li, c_z, c_s, gx_v, gx_s, e_mIsX, e_sTry, tc_ok, tc_exc, cm_nil, cm_cons, ex_ok, dx_nil, dx_v, dx_o, dx_x, dx_n, at_exx, Int.cast_ofNat_Int, e_mLrg1, e_mLrg2, d_lrg])]
  rw [st_setO (ds := [lo p ws gm]) (by simp (disch := omega) only [h3s, h1s, bind_ok, bind_bad, bind_exc, at_ok, at_exc, ofO_some, oS_some, nox_okk, g_v, g_s, go_v, go_s, ga_v, ga_o, ga_s, s_z, s_s, fz_o, fz_v, fz_s, e_mGet, e_mC, e_m2, e_m1, e_mT, e_mB, e_mAndB, e_mOrB, e_mNotB, e_mAnd, e_mOr, e_mIf, e_mChain, e_mNil, e_mCons, e_mSeq, e_mCall, e_mNo, e_mPart, e_mCut, e_mIs, e_mIs2, e_mL, e_mDsp, e_mRep, e_mBind, e_mIxO, e_mBor, e_mBorB, e_mItems, e_mWk, e_mRev, e_mYes, e_mLc, e_gN, e_gE, e_gC, e_gTt, e_gTl, e_sNx, e_sThen, e_sDrop, e_sRet, e_sSet, e_sIf, e_sFor, e_sAsg, e_sPar, e_sSetO, e_sSetL, e_ownAt, e_freeze, e_sApp, e_sSetIx, e_sAugIx, e_sAug, e_sPop, e_sPopTo, e_fnM, e_bo_rt, e_bo_nx, e_bo_exc, e_startE, e_wipe0, e_wipe1, d_add, d_addib, d_addl, d_addt, d_sub, d_mul, d_div, d_mod, d_pow, d_cmp, d_neg, d_not, d_iadd, d_iop, d_toB, d_toI, d_trB, d_trI, d_trN, d_trL, d_trT, d_lenL, d_lenT, d_intI, d_intB, d_abs, d_gcd, d_max2, d_min2, d_sumI, d_anyB, d_allB, d_maxL, d_minL, d_listL, d_listT, d_tupL, d_tupT, d_idxL, d_idxT, d_lstL, d_lstT, d_revL, d_itL, d_itT, d_rng1, d_rng2, d_enum1, d_zip2, d_rev1L, d_rev1T, d_cutL, d_cutT, d_rep, d_mTup, d_mLst, d_setD, d_scN, d_scB, d_scI, d_scS, d_isN, d_isNN, d_nN, d_nB, d_nI, d_nS, d_nL, d_nT, if_true, if_false, ite_true, ite_false, reduceIte, List.length_cons, List.length_nil, Nat.zero_add, Nat.reduceAdd, Nat.reduceSub, Nat.reduceEqDiff, List.map_cons, List.map_nil, List.cons_append, List.nil_append, List.replicate, Option.map_some, Option.bind_some, Option.some.injEq, Bool.not_true, Bool.not_false, ne_eq, Bool.false_eq_true, Int.reduceEq, Int.reduceLT, Int.reduceLE, Int.reduceNeg, Int.reduceAdd, Int.reduceSub, Int.reduceMul, Int.reduceToNat, Int.toNat_natCast, Nat.reduceLT, Nat.reduceLeDiff, not_false_eq_true, not_true_eq_false, decide_true, decide_false, List.length_map, List.map_append, fmod_pos, fdiv_pos, and_true, true_and, and_self, Bool.and_true, Bool.or_false, Bool.and_false, Bool.or_true, Bool.true_and, Bool.false_and, ty_li_none, ty_li_bool, ty_li_int, ty_li_str, ty_li_list, ty_li_tuple, ty_tu_none, ty_tu_bool, ty_tu_int, ty_tu_str, ty_tu_list, ty_tu_tuple, ty_bo_none, ty_bo_bool, ty_bo_int, ty_bo_str, ty_bo_list, ty_bo_tuple, ty_in_none, ty_in_bool, ty_in_int, ty_in_str, ty_in_list, ty_in_tuple, ty_st_none, ty_st_bool, ty_st_int, ty_st_str, ty_st_list, ty_st_tuple, eq_int, ne_int, eq_bl, ne_bl, eq_st, ne_st, eq_li, ne_li, at_0, at_1, at_2, at_3, at_4, at_5, in_li, notin_li, c_z, c_s, gx_v, gx_s, e_mIsX, e_sTry, tc_ok, tc_exc, cm_nil, cm_cons, ex_ok, dx_nil, dx_v, dx_o, dx_x, dx_n, at_exx, Int.cast_ofNat_Int, e_mLrg1, e_mLrg2, d_lrg])]; simp only [s_s, s_z]
  rw [st_nx (ρ' := [some (.val (.list (ns.map .int))), some (.val (li ds)), some (.val (lo p ws gs)), some (.val (.int p)), some (.val (.list (ws.map s3))), some (.val (li gs)), some (.val (.int most)), some (.val (pr (t, q))), some (.val (pr (t2, q2))), some (.val (li gm)), none, some (.val (.int w0.1)), some (.val (.int w0.2.1)), some (.val (.int w0.2.2)), some (.own [lo p ws gm, lo p (ws.map g) gs]), none, none, none, none, none, none, none, none, none]) (by
    have h1l : 1 < sizeLine := by rw [line_eq]; decide
    simp (disch := omega) only [wl, bind_ok, bind_bad, bind_exc, at_ok, at_exc, ofO_some, oS_some, nox_okk, g_v, g_s, go_v, go_s, ga_v, ga_o, ga_s, s_z, s_s, fz_o, fz_v, fz_s, e_mGet, e_mC, e_m2, e_m1, e_mT, e_mB, e_mAndB, e_mOrB, e_mNotB, e_mAnd, e_mOr, e_mIf, e_mChain, e_mNil, e_mCons, e_mSeq, e_mCall, e_mNo, e_mPart, e_mCut, e_mIs, e_mIs2, e_mL, e_mDsp, e_mRep, e_mBind, e_mIxO, e_mBor, e_mBorB, e_mItems, e_mWk, e_mRev, e_mYes, e_mLc, e_gN, e_gE, e_gC, e_gTt, e_gTl, e_sNx, e_sThen, e_sDrop, e_sRet, e_sSet, e_sIf, e_sFor, e_sAsg, e_sPar, e_sSetO, e_sSetL, e_ownAt, e_freeze, e_sApp, e_sSetIx, e_sAugIx, e_sAug, e_sPop, e_sPopTo, e_fnM, e_bo_rt, e_bo_nx, e_bo_exc, e_startE, e_wipe0, e_wipe1, d_add, d_addib, d_addl, d_addt, d_sub, d_mul, d_div, d_mod, d_pow, d_cmp, d_neg, d_not, d_iadd, d_iop, d_toB, d_toI, d_trB, d_trI, d_trN, d_trL, d_trT, d_lenL, d_lenT, d_intI, d_intB, d_abs, d_gcd, d_max2, d_min2, d_sumI, d_anyB, d_allB, d_maxL, d_minL, d_listL, d_listT, d_tupL, d_tupT, d_idxL, d_idxT, d_lstL, d_lstT, d_revL, d_itL, d_itT, d_rng1, d_rng2, d_enum1, d_zip2, d_rev1L, d_rev1T, d_cutL, d_cutT, d_rep, d_mTup, d_mLst, d_setD, d_scN, d_scB, d_scI, d_scS, d_isN, d_isNN, d_nN, d_nB, d_nI, d_nS, d_nL, d_nT, if_true, if_false, ite_true, ite_false, reduceIte, List.length_cons, List.length_nil, Nat.zero_add, Nat.reduceAdd, Nat.reduceSub, Nat.reduceEqDiff, List.map_cons, List.map_nil, List.cons_append, List.nil_append, List.replicate, Option.map_some, Option.bind_some, Option.some.injEq, Bool.not_true, Bool.not_false, ne_eq, Bool.false_eq_true, Int.reduceEq, Int.reduceLT, Int.reduceLE, Int.reduceNeg, Int.reduceAdd, Int.reduceSub, Int.reduceMul, Int.reduceToNat, Int.toNat_natCast, Nat.reduceLT, Nat.reduceLeDiff, not_false_eq_true, not_true_eq_false, decide_true, decide_false, List.length_map, List.map_append, fmod_pos, fdiv_pos, and_true, true_and, and_self, Bool.and_true, Bool.or_false, Bool.and_false, Bool.or_true, Bool.true_and, Bool.false_and, ty_li_none, ty_li_bool, ty_li_int, ty_li_str, ty_li_list, ty_li_tuple, ty_tu_none, ty_tu_bool, ty_tu_int, ty_tu_str, ty_tu_list, ty_tu_tuple, ty_bo_none, ty_bo_bool, ty_bo_int, ty_bo_str, ty_bo_list, ty_bo_tuple, ty_in_none, ty_in_bool, ty_in_int, ty_in_str, ty_in_list, ty_in_tuple, ty_st_none, ty_st_bool, ty_st_int, ty_st_str, ty_st_list, ty_st_tuple, eq_int, ne_int, eq_bl, ne_bl, eq_st, ne_st, eq_li, ne_li, at_0, at_1, at_2, at_3, at_4, at_5, in_li, notin_li, c_z, c_s, gx_v, gx_s, e_mIsX, e_sTry, tc_ok, tc_exc, cm_nil, cm_cons, ex_ok, dx_nil, dx_v, dx_o, dx_x, dx_n, at_exx, Int.cast_ofNat_Int, e_mLrg1, e_mLrg2, d_lrg]
    rw [lcM_all (dec := s3) (fun w => .tuple [.int w.1, .int (w.2.1 + (if decide (w.1 = w0.1) = true then 1 else 0)), .int w.2.2]) (fun w _ => ⟨_, e_tg3 w _, by simp (disch := omega) only [h3s, bind_ok, bind_bad, bind_exc, at_ok, at_exc, ofO_some, oS_some, nox_okk, g_v, g_s, go_v, go_s, ga_v, ga_o, ga_s, s_z, s_s, fz_o, fz_v, fz_s, e_mGet, e_mC, e_m2, e_m1, e_mT, e_mB, e_mAndB, e_mOrB, e_mNotB, e_mAnd, e_mOr, e_mIf, e_mChain, e_mNil, e_mCons, e_mSeq, e_mCall, e_mNo, e_mPart, e_mCut, e_mIs, e_mIs2, e_mL, e_mDsp, e_mRep, e_mBind, e_mIxO, e_mBor, e_mBorB, e_mItems, e_mWk, e_mRev, e_mYes, e_mLc, e_gN, e_gE, e_gC, e_gTt, e_gTl, e_sNx, e_sThen, e_sDrop, e_sRet, e_sSet, e_sIf, e_sFor, e_sAsg, e_sPar, e_sSetO, e_sSetL, e_ownAt, e_freeze, e_sApp, e_sSetIx, e_sAugIx, e_sAug, e_sPop, e_sPopTo, e_fnM, e_bo_rt, e_bo_nx, e_bo_exc, e_startE, e_wipe0, e_wipe1, d_add, d_addib, d_addl, d_addt, d_sub, d_mul, d_div, d_mod, d_pow, d_cmp, d_neg, d_not, d_iadd, d_iop, d_toB, d_toI, d_trB, d_trI, d_trN, d_trL, d_trT, d_lenL, d_lenT, d_intI, d_intB, d_abs, d_gcd, d_max2, d_min2, d_sumI, d_anyB, d_allB, d_maxL, d_minL, d_listL, d_listT, d_tupL, d_tupT, d_idxL, d_idxT, d_lstL, d_lstT, d_revL, d_itL, d_itT, d_rng1, d_rng2, d_enum1, d_zip2, d_rev1L, d_rev1T, d_cutL, d_cutT, d_rep, d_mTup, d_mLst, d_setD, d_scN, d_scB, d_scI, d_scS, d_isN, d_isNN, d_nN, d_nB, d_nI, d_nS, d_nL, d_nT, if_true, if_false, ite_true, ite_false, reduceIte, List.length_cons, List.length_nil, Nat.zero_add, Nat.reduceAdd, Nat.reduceSub, Nat.reduceEqDiff, List.map_cons, List.map_nil, List.cons_append, List.nil_append, List.replicate, Option.map_some, Option.bind_some, Option.some.injEq, Bool.not_true, Bool.not_false, ne_eq, Bool.false_eq_true, Int.reduceEq, Int.reduceLT, Int.reduceLE, Int.reduceNeg, Int.reduceAdd, Int.reduceSub, Int.reduceMul, Int.reduceToNat, Int.toNat_natCast, Nat.reduceLT, Nat.reduceLeDiff, not_false_eq_true, not_true_eq_false, decide_true, decide_false, List.length_map, List.map_append, fmod_pos, fdiv_pos, and_true, true_and, and_self, Bool.and_true, Bool.or_false, Bool.and_false, Bool.or_true, Bool.true_and, Bool.false_and, ty_li_none, ty_li_bool, ty_li_int, ty_li_str, ty_li_list, ty_li_tuple, ty_tu_none, ty_tu_bool, ty_tu_int, ty_tu_str, ty_tu_list, ty_tu_tuple, ty_bo_none, ty_bo_bool, ty_bo_int, ty_bo_str, ty_bo_list, ty_bo_tuple, ty_in_none, ty_in_bool, ty_in_int, ty_in_str, ty_in_list, ty_in_tuple, ty_st_none, ty_st_bool, ty_st_int, ty_st_str, ty_st_list, ty_st_tuple, eq_int, ne_int, eq_bl, ne_bl, eq_st, ne_st, eq_li, ne_li, at_0, at_1, at_2, at_3, at_4, at_5, in_li, notin_li, c_z, c_s, gx_v, gx_s, e_mIsX, e_sTry, tc_ok, tc_exc, cm_nil, cm_cons, ex_ok, dx_nil, dx_v, dx_o, dx_x, dx_n, at_exx, Int.cast_ofNat_Int, e_mLrg1, e_mLrg2, d_lrg]⟩), ← hid]
    simp (disch := omega) only [h3s, h1l, bind_ok, bind_bad, bind_exc, at_ok, at_exc, ofO_some, oS_some, nox_okk, g_v, g_s, go_v, go_s, ga_v, ga_o, ga_s, s_z, s_s, fz_o, fz_v, fz_s, e_mGet, e_mC, e_m2, e_m1, e_mT, e_mB, e_mAndB, e_mOrB, e_mNotB, e_mAnd, e_mOr, e_mIf, e_mChain, e_mNil, e_mCons, e_mSeq, e_mCall, e_mNo, e_mPart, e_mCut, e_mIs, e_mIs2, e_mL, e_mDsp, e_mRep, e_mBind, e_mIxO, e_mBor, e_mBorB, e_mItems, e_mWk, e_mRev, e_mYes, e_mLc, e_gN, e_gE, e_gC, e_gTt, e_gTl, e_sNx, e_sThen, e_sDrop, e_sRet, e_sSet, e_sIf, e_sFor, e_sAsg, e_sPar, e_sSetO, e_sSetL, e_ownAt, e_freeze, e_sApp, e_sSetIx, e_sAugIx, e_sAug, e_sPop, e_sPopTo, e_fnM, e_bo_rt, e_bo_nx, e_bo_exc, e_startE, e_wipe0, e_wipe1, d_add, d_addib, d_addl, d_addt, d_sub, d_mul, d_div, d_mod, d_pow, d_cmp, d_neg, d_not, d_iadd, d_iop, d_toB, d_toI, d_trB, d_trI, d_trN, d_trL, d_trT, d_lenL, d_lenT, d_intI, d_intB, d_abs, d_gcd, d_max2, d_min2, d_sumI, d_anyB, d_allB, d_maxL, d_minL, d_listL, d_listT, d_tupL, d_tupT, d_idxL, d_idxT, d_lstL, d_lstT, d_revL, d_itL, d_itT, d_rng1, d_rng2, d_enum1, d_zip2, d_rev1L, d_rev1T, d_cutL, d_cutT, d_rep, d_mTup, d_mLst, d_setD, d_scN, d_scB, d_scI, d_scS, d_isN, d_isNN, d_nN, d_nB, d_nI, d_nS, d_nL, d_nT, if_true, if_false, ite_true, ite_false, reduceIte, List.length_cons, List.length_nil, Nat.zero_add, Nat.reduceAdd, Nat.reduceSub, Nat.reduceEqDiff, List.map_cons, List.map_nil, List.cons_append, List.nil_append, List.replicate, Option.map_some, Option.bind_some, Option.some.injEq, Bool.not_true, Bool.not_false, ne_eq, Bool.false_eq_true, Int.reduceEq, Int.reduceLT, Int.reduceLE, Int.reduceNeg, Int.reduceAdd, Int.reduceSub, Int.reduceMul, Int.reduceToNat, Int.toNat_natCast, Nat.reduceLT, Nat.reduceLeDiff, not_false_eq_true, not_true_eq_false, decide_true, decide_false, List.length_map, List.map_append, fmod_pos, fdiv_pos, and_true, true_and, and_self, Bool.and_true, Bool.or_false, Bool.and_false, Bool.or_true, Bool.true_and, Bool.false_and, ty_li_none, ty_li_bool, ty_li_int, ty_li_str, ty_li_list, ty_li_tuple, ty_tu_none, ty_tu_bool, ty_tu_int, ty_tu_str, ty_tu_list, ty_tu_tuple, ty_bo_none, ty_bo_bool, ty_bo_int, ty_bo_str, ty_bo_list, ty_bo_tuple, ty_in_none, ty_in_bool, ty_in_int, ty_in_str, ty_in_list, ty_in_tuple, ty_st_none, ty_st_bool, ty_st_int, ty_st_str, ty_st_list, ty_st_tuple, eq_int, ne_int, eq_bl, ne_bl, eq_st, ne_st, eq_li, ne_li, at_0, at_1, at_2, at_3, at_4, at_5, in_li, notin_li, c_z, c_s, gx_v, gx_s, e_mIsX, e_sTry, tc_ok, tc_exc, cm_nil, cm_cons, ex_ok, dx_nil, dx_v, dx_o, dx_x, dx_n, at_exx, Int.cast_ofNat_Int, e_mLrg1, e_mLrg2, d_lrg])]
  rw [st_nx (ρ' := [some (.val (.list (ns.map .int))), some (.val (li ds)), some (.val (lo p ws gs)), some (.val (.int p)), some (.val (.list (ws.map s3))), some (.val (li gs)), some (.val (.int most)), some (.val (pr (t, q))), some (.val (pr (t2, q2))), some (.val (li gm)), none, some (.val (.int w0.1)), some (.val (.int w0.2.1)), some (.val (.int w0.2.2)), some (.val (.list [lo p ws gm, lo p (ws.map g) gs])), none, none, none, some (.val (lo p (ws.map g) gs)), some (.val (pr (tb, qb))), none, none, none, none]) (by
    simp (disch := omega) only [forM_cons, forM_nil, u_law_0, a1, a2, nta, c1, c2, ntb, bind_ok, bind_bad, bind_exc, at_ok, at_exc, ofO_some, oS_some, nox_okk, g_v, g_s, go_v, go_s, ga_v, ga_o, ga_s, s_z, s_s, fz_o, fz_v, fz_s, e_mGet, e_mC, e_m2, e_m1, e_mT, e_mB, e_mAndB, e_mOrB, e_mNotB, e_mAnd, e_mOr, e_mIf, e_mChain, e_mNil, e_mCons, e_mSeq, e_mCall, e_mNo, e_mPart, e_mCut, e_mIs, e_mIs2, e_mL, e_mDsp, e_mRep, e_mBind, e_mIxO, e_mBor, e_mBorB, e_mItems, e_mWk, e_mRev, e_mYes, e_mLc, e_gN, e_gE, e_gC, e_gTt, e_gTl, e_sNx, e_sThen, e_sDrop, e_sRet, e_sSet, e_sIf, e_sFor, e_sAsg, e_sPar, e_sSetO, e_sSetL, e_ownAt, e_freeze, e_sApp, e_sSetIx, e_sAugIx, e_sAug, e_sPop, e_sPopTo, e_fnM, e_bo_rt, e_bo_nx, e_bo_exc, e_startE, e_wipe0, e_wipe1, d_add, d_addib, d_addl, d_addt, d_sub, d_mul, d_div, d_mod, d_pow, d_cmp, d_neg, d_not, d_iadd, d_iop, d_toB, d_toI, d_trB, d_trI, d_trN, d_trL, d_trT, d_lenL, d_lenT, d_intI, d_intB, d_abs, d_gcd, d_max2, d_min2, d_sumI, d_anyB, d_allB, d_maxL, d_minL, d_listL, d_listT, d_tupL, d_tupT, d_idxL, d_idxT, d_lstL, d_lstT, d_revL, d_itL, d_itT, d_rng1, d_rng2, d_enum1, d_zip2, d_rev1L, d_rev1T, d_cutL, d_cutT, d_rep, d_mTup, d_mLst, d_setD, d_scN, d_scB, d_scI, d_scS, d_isN, d_isNN, d_nN, d_nB, d_nI, d_nS, d_nL, d_nT, if_true, if_false, ite_true, ite_false, reduceIte, List.length_cons, List.length_nil, Nat.zero_add, Nat.reduceAdd, Nat.reduceSub, Nat.reduceEqDiff, List.map_cons, List.map_nil, List.cons_append, List.nil_append, List.replicate, Option.map_some, Option.bind_some, Option.some.injEq, Bool.not_true, Bool.not_false, ne_eq, Bool.false_eq_true, Int.reduceEq, Int.reduceLT, Int.reduceLE, Int.reduceNeg, Int.reduceAdd, Int.reduceSub, Int.reduceMul, Int.reduceToNat, Int.toNat_natCast, Nat.reduceLT, Nat.reduceLeDiff, not_false_eq_true, not_true_eq_false, decide_true, decide_false, List.length_map, List.map_append, fmod_pos, fdiv_pos, and_true, true_and, and_self, Bool.and_true, Bool.or_false, Bool.and_false, Bool.or_true, Bool.true_and, Bool.false_and, ty_li_none, ty_li_bool, ty_li_int, ty_li_str, ty_li_list, ty_li_tuple, ty_tu_none, ty_tu_bool, ty_tu_int, ty_tu_str, ty_tu_list, ty_tu_tuple, ty_bo_none, ty_bo_bool, ty_bo_int, ty_bo_str, ty_bo_list, ty_bo_tuple, ty_in_none, ty_in_bool, ty_in_int, ty_in_str, ty_in_list, ty_in_tuple, ty_st_none, ty_st_bool, ty_st_int, ty_st_str, ty_st_list, ty_st_tuple, eq_int, ne_int, eq_bl, ne_bl, eq_st, ne_st, eq_li, ne_li, at_0, at_1, at_2, at_3, at_4, at_5, in_li, notin_li, c_z, c_s, gx_v, gx_s, e_mIsX, e_sTry, tc_ok, tc_exc, cm_nil, cm_cons, ex_ok, dx_nil, dx_v, dx_o, dx_x, dx_n, at_exx, Int.cast_ofNat_Int, e_mLrg1, e_mLrg2, d_lrg])]
  rw [st_set (d := lo p ws []) (by simp (disch := omega) only [h0s, h3s, bind_ok, bind_bad, bind_exc, at_ok, at_exc, ofO_some, oS_some, nox_okk, g_v, g_s, go_v, go_s, ga_v, ga_o, ga_s, s_z, s_s, fz_o, fz_v, fz_s, e_mGet, e_mC, e_m2, e_m1, e_mT, e_mB, e_mAndB, e_mOrB, e_mNotB, e_mAnd, e_mOr, e_mIf, e_mChain, e_mNil, e_mCons, e_mSeq, e_mCall, e_mNo, e_mPart, e_mCut, e_mIs, e_mIs2, e_mL, e_mDsp, e_mRep, e_mBind, e_mIxO, e_mBor, e_mBorB, e_mItems, e_mWk, e_mRev, e_mYes, e_mLc, e_gN, e_gE, e_gC, e_gTt, e_gTl, e_sNx, e_sThen, e_sDrop, e_sRet, e_sSet, e_sIf, e_sFor, e_sAsg, e_sPar, e_sSetO, e_sSetL, e_ownAt, e_freeze, e_sApp, e_sSetIx, e_sAugIx, e_sAug, e_sPop, e_sPopTo, e_fnM, e_bo_rt, e_bo_nx, e_bo_exc, e_startE, e_wipe0, e_wipe1, d_add, d_addib, d_addl, d_addt, d_sub, d_mul, d_div, d_mod, d_pow, d_cmp, d_neg, d_not, d_iadd, d_iop, d_toB, d_toI, d_trB, d_trI, d_trN, d_trL, d_trT, d_lenL, d_lenT, d_intI, d_intB, d_abs, d_gcd, d_max2, d_min2, d_sumI, d_anyB, d_allB, d_maxL, d_minL, d_listL, d_listT, d_tupL, d_tupT, d_idxL, d_idxT, d_lstL, d_lstT, d_revL, d_itL, d_itT, d_rng1, d_rng2, d_enum1, d_zip2, d_rev1L, d_rev1T, d_cutL, d_cutT, d_rep, d_mTup, d_mLst, d_setD, d_scN, d_scB, d_scI, d_scS, d_isN, d_isNN, d_nN, d_nB, d_nI, d_nS, d_nL, d_nT, if_true, if_false, ite_true, ite_false, reduceIte, List.length_cons, List.length_nil, Nat.zero_add, Nat.reduceAdd, Nat.reduceSub, Nat.reduceEqDiff, List.map_cons, List.map_nil, List.cons_append, List.nil_append, List.replicate, Option.map_some, Option.bind_some, Option.some.injEq, Bool.not_true, Bool.not_false, ne_eq, Bool.false_eq_true, Int.reduceEq, Int.reduceLT, Int.reduceLE, Int.reduceNeg, Int.reduceAdd, Int.reduceSub, Int.reduceMul, Int.reduceToNat, Int.toNat_natCast, Nat.reduceLT, Nat.reduceLeDiff, not_false_eq_true, not_true_eq_false, decide_true, decide_false, List.length_map, List.map_append, fmod_pos, fdiv_pos, and_true, true_and, and_self, Bool.and_true, Bool.or_false, Bool.and_false, Bool.or_true, Bool.true_and, Bool.false_and, ty_li_none, ty_li_bool, ty_li_int, ty_li_str, ty_li_list, ty_li_tuple, ty_tu_none, ty_tu_bool, ty_tu_int, ty_tu_str, ty_tu_list, ty_tu_tuple, ty_bo_none, ty_bo_bool, ty_bo_int, ty_bo_str, ty_bo_list, ty_bo_tuple, ty_in_none, ty_in_bool, ty_in_int, ty_in_str, ty_in_list, ty_in_tuple, ty_st_none, ty_st_bool, ty_st_int, ty_st_str, ty_st_list, ty_st_tuple, eq_int, ne_int, eq_bl, ne_bl, eq_st, ne_st, eq_li, ne_li, at_0, at_1, at_2, at_3, at_4, at_5, in_li, notin_li, c_z, c_s, gx_v, gx_s, e_mIsX, e_sTry, tc_ok, tc_exc, cm_nil, cm_cons, ex_ok, dx_nil, dx_v, dx_o, dx_x, dx_n, at_exx, Int.cast_ofNat_Int, e_mLrg1, e_mLrg2, d_lrg]; rfl)]; simp only [s_s, s_z]
  rw [st_set (d := .int many) (by simp (disch := omega) only [atI_li, hlen, hp20, h4s, hmany, bind_ok, bind_bad, bind_exc, at_ok, at_exc, ofO_some, oS_some, nox_okk, g_v, g_s, go_v, go_s, ga_v, ga_o, ga_s, s_z, s_s, fz_o, fz_v, fz_s, e_mGet, e_mC, e_m2, e_m1, e_mT, e_mB, e_mAndB, e_mOrB, e_mNotB, e_mAnd, e_mOr, e_mIf, e_mChain, e_mNil, e_mCons, e_mSeq, e_mCall, e_mNo, e_mPart, e_mCut, e_mIs, e_mIs2, e_mL, e_mDsp, e_mRep, e_mBind, e_mIxO, e_mBor, e_mBorB, e_mItems, e_mWk, e_mRev, e_mYes, e_mLc, e_gN, e_gE, e_gC, e_gTt, e_gTl, e_sNx, e_sThen, e_sDrop, e_sRet, e_sSet, e_sIf, e_sFor, e_sAsg, e_sPar, e_sSetO, e_sSetL, e_ownAt, e_freeze, e_sApp, e_sSetIx, e_sAugIx, e_sAug, e_sPop, e_sPopTo, e_fnM, e_bo_rt, e_bo_nx, e_bo_exc, e_startE, e_wipe0, e_wipe1, d_add, d_addib, d_addl, d_addt, d_sub, d_mul, d_div, d_mod, d_pow, d_cmp, d_neg, d_not, d_iadd, d_iop, d_toB, d_toI, d_trB, d_trI, d_trN, d_trL, d_trT, d_lenL, d_lenT, d_intI, d_intB, d_abs, d_gcd, d_max2, d_min2, d_sumI, d_anyB, d_allB, d_maxL, d_minL, d_listL, d_listT, d_tupL, d_tupT, d_idxL, d_idxT, d_lstL, d_lstT, d_revL, d_itL, d_itT, d_rng1, d_rng2, d_enum1, d_zip2, d_rev1L, d_rev1T, d_cutL, d_cutT, d_rep, d_mTup, d_mLst, d_setD, d_scN, d_scB, d_scI, d_scS, d_isN, d_isNN, d_nN, d_nB, d_nI, d_nS, d_nL, d_nT, if_true, if_false, ite_true, ite_false, reduceIte, List.length_cons, List.length_nil, Nat.zero_add, Nat.reduceAdd, Nat.reduceSub, Nat.reduceEqDiff, List.map_cons, List.map_nil, List.cons_append, List.nil_append, List.replicate, Option.map_some, Option.bind_some, Option.some.injEq, Bool.not_true, Bool.not_false, ne_eq, Bool.false_eq_true, Int.reduceEq, Int.reduceLT, Int.reduceLE, Int.reduceNeg, Int.reduceAdd, Int.reduceSub, Int.reduceMul, Int.reduceToNat, Int.toNat_natCast, Nat.reduceLT, Nat.reduceLeDiff, not_false_eq_true, not_true_eq_false, decide_true, decide_false, List.length_map, List.map_append, fmod_pos, fdiv_pos, and_true, true_and, and_self, Bool.and_true, Bool.or_false, Bool.and_false, Bool.or_true, Bool.true_and, Bool.false_and, ty_li_none, ty_li_bool, ty_li_int, ty_li_str, ty_li_list, ty_li_tuple, ty_tu_none, ty_tu_bool, ty_tu_int, ty_tu_str, ty_tu_list, ty_tu_tuple, ty_bo_none, ty_bo_bool, ty_bo_int, ty_bo_str, ty_bo_list, ty_bo_tuple, ty_in_none, ty_in_bool, ty_in_int, ty_in_str, ty_in_list, ty_in_tuple, ty_st_none, ty_st_bool, ty_st_int, ty_st_str, ty_st_list, ty_st_tuple, eq_int, ne_int, eq_bl, ne_bl, eq_st, ne_st, eq_li, ne_li, at_0, at_1, at_2, at_3, at_4, at_5, in_li, notin_li, c_z, c_s, gx_v, gx_s, e_mIsX, e_sTry, tc_ok, tc_exc, cm_nil, cm_cons, ex_ok, dx_nil, dx_v, dx_o, dx_x, dx_n, at_exx, Int.cast_ofNat_Int, e_mLrg1, e_mLrg2, d_lrg])]; simp only [s_s, s_z]
  rw [st_set (d := .int once) (by
    simp (disch := omega) only [wl, bind_ok, bind_bad, bind_exc, at_ok, at_exc, ofO_some, oS_some, nox_okk, g_v, g_s, go_v, go_s, ga_v, ga_o, ga_s, s_z, s_s, fz_o, fz_v, fz_s, e_mGet, e_mC, e_m2, e_m1, e_mT, e_mB, e_mAndB, e_mOrB, e_mNotB, e_mAnd, e_mOr, e_mIf, e_mChain, e_mNil, e_mCons, e_mSeq, e_mCall, e_mNo, e_mPart, e_mCut, e_mIs, e_mIs2, e_mL, e_mDsp, e_mRep, e_mBind, e_mIxO, e_mBor, e_mBorB, e_mItems, e_mWk, e_mRev, e_mYes, e_mLc, e_gN, e_gE, e_gC, e_gTt, e_gTl, e_sNx, e_sThen, e_sDrop, e_sRet, e_sSet, e_sIf, e_sFor, e_sAsg, e_sPar, e_sSetO, e_sSetL, e_ownAt, e_freeze, e_sApp, e_sSetIx, e_sAugIx, e_sAug, e_sPop, e_sPopTo, e_fnM, e_bo_rt, e_bo_nx, e_bo_exc, e_startE, e_wipe0, e_wipe1, d_add, d_addib, d_addl, d_addt, d_sub, d_mul, d_div, d_mod, d_pow, d_cmp, d_neg, d_not, d_iadd, d_iop, d_toB, d_toI, d_trB, d_trI, d_trN, d_trL, d_trT, d_lenL, d_lenT, d_intI, d_intB, d_abs, d_gcd, d_max2, d_min2, d_sumI, d_anyB, d_allB, d_maxL, d_minL, d_listL, d_listT, d_tupL, d_tupT, d_idxL, d_idxT, d_lstL, d_lstT, d_revL, d_itL, d_itT, d_rng1, d_rng2, d_enum1, d_zip2, d_rev1L, d_rev1T, d_cutL, d_cutT, d_rep, d_mTup, d_mLst, d_setD, d_scN, d_scB, d_scI, d_scS, d_isN, d_isNN, d_nN, d_nB, d_nI, d_nS, d_nL, d_nT, if_true, if_false, ite_true, ite_false, reduceIte, List.length_cons, List.length_nil, Nat.zero_add, Nat.reduceAdd, Nat.reduceSub, Nat.reduceEqDiff, List.map_cons, List.map_nil, List.cons_append, List.nil_append, List.replicate, Option.map_some, Option.bind_some, Option.some.injEq, Bool.not_true, Bool.not_false, ne_eq, Bool.false_eq_true, Int.reduceEq, Int.reduceLT, Int.reduceLE, Int.reduceNeg, Int.reduceAdd, Int.reduceSub, Int.reduceMul, Int.reduceToNat, Int.toNat_natCast, Nat.reduceLT, Nat.reduceLeDiff, not_false_eq_true, not_true_eq_false, decide_true, decide_false, List.length_map, List.map_append, fmod_pos, fdiv_pos, and_true, true_and, and_self, Bool.and_true, Bool.or_false, Bool.and_false, Bool.or_true, Bool.true_and, Bool.false_and, ty_li_none, ty_li_bool, ty_li_int, ty_li_str, ty_li_list, ty_li_tuple, ty_tu_none, ty_tu_bool, ty_tu_int, ty_tu_str, ty_tu_list, ty_tu_tuple, ty_bo_none, ty_bo_bool, ty_bo_int, ty_bo_str, ty_bo_list, ty_bo_tuple, ty_in_none, ty_in_bool, ty_in_int, ty_in_str, ty_in_list, ty_in_tuple, ty_st_none, ty_st_bool, ty_st_int, ty_st_str, ty_st_list, ty_st_tuple, eq_int, ne_int, eq_bl, ne_bl, eq_st, ne_st, eq_li, ne_li, at_0, at_1, at_2, at_3, at_4, at_5, in_li, notin_li, c_z, c_s, gx_v, gx_s, e_mIsX, e_sTry, tc_ok, tc_exc, cm_nil, cm_cons, ex_ok, dx_nil, dx_v, dx_o, dx_x, dx_n, at_exx, Int.cast_ofNat_Int, e_mLrg1, e_mLrg2, d_lrg]
    rw [lcM_all (dec := s3) (fun w => .int w.2.1) (fun w _ => ⟨_, e_tg3 w _, by simp (disch := omega) only [bind_ok, bind_bad, bind_exc, at_ok, at_exc, ofO_some, oS_some, nox_okk, g_v, g_s, go_v, go_s, ga_v, ga_o, ga_s, s_z, s_s, fz_o, fz_v, fz_s, e_mGet, e_mC, e_m2, e_m1, e_mT, e_mB, e_mAndB, e_mOrB, e_mNotB, e_mAnd, e_mOr, e_mIf, e_mChain, e_mNil, e_mCons, e_mSeq, e_mCall, e_mNo, e_mPart, e_mCut, e_mIs, e_mIs2, e_mL, e_mDsp, e_mRep, e_mBind, e_mIxO, e_mBor, e_mBorB, e_mItems, e_mWk, e_mRev, e_mYes, e_mLc, e_gN, e_gE, e_gC, e_gTt, e_gTl, e_sNx, e_sThen, e_sDrop, e_sRet, e_sSet, e_sIf, e_sFor, e_sAsg, e_sPar, e_sSetO, e_sSetL, e_ownAt, e_freeze, e_sApp, e_sSetIx, e_sAugIx, e_sAug, e_sPop, e_sPopTo, e_fnM, e_bo_rt, e_bo_nx, e_bo_exc, e_startE, e_wipe0, e_wipe1, d_add, d_addib, d_addl, d_addt, d_sub, d_mul, d_div, d_mod, d_pow, d_cmp, d_neg, d_not, d_iadd, d_iop, d_toB, d_toI, d_trB, d_trI, d_trN, d_trL, d_trT, d_lenL, d_lenT, d_intI, d_intB, d_abs, d_gcd, d_max2, d_min2, d_sumI, d_anyB, d_allB, d_maxL, d_minL, d_listL, d_listT, d_tupL, d_tupT, d_idxL, d_idxT, d_lstL, d_lstT, d_revL, d_itL, d_itT, d_rng1, d_rng2, d_enum1, d_zip2, d_rev1L, d_rev1T, d_cutL, d_cutT, d_rep, d_mTup, d_mLst, d_setD, d_scN, d_scB, d_scI, d_scS, d_isN, d_isNN, d_nN, d_nB, d_nI, d_nS, d_nL, d_nT, if_true, if_false, ite_true, ite_false, reduceIte, List.length_cons, List.length_nil, Nat.zero_add, Nat.reduceAdd, Nat.reduceSub, Nat.reduceEqDiff, List.map_cons, List.map_nil, List.cons_append, List.nil_append, List.replicate, Option.map_some, Option.bind_some, Option.some.injEq, Bool.not_true, Bool.not_false, ne_eq, Bool.false_eq_true, Int.reduceEq, Int.reduceLT, Int.reduceLE, Int.reduceNeg, Int.reduceAdd, Int.reduceSub, Int.reduceMul, Int.reduceToNat, Int.toNat_natCast, Nat.reduceLT, Nat.reduceLeDiff, not_false_eq_true, not_true_eq_false, decide_true, decide_false, List.length_map, List.map_append, fmod_pos, fdiv_pos, and_true, true_and, and_self, Bool.and_true, Bool.or_false, Bool.and_false, Bool.or_true, Bool.true_and, Bool.false_and, ty_li_none, ty_li_bool, ty_li_int, ty_li_str, ty_li_list, ty_li_tuple, ty_tu_none, ty_tu_bool, ty_tu_int, ty_tu_str, ty_tu_list, ty_tu_tuple, ty_bo_none, ty_bo_bool, ty_bo_int, ty_bo_str, ty_bo_list, ty_bo_tuple, ty_in_none, ty_in_bool, ty_in_int, ty_in_str, ty_in_list, ty_in_tuple, ty_st_none, ty_st_bool, ty_st_int, ty_st_str, ty_st_list, ty_st_tuple, eq_int, ne_int, eq_bl, ne_bl, eq_st, ne_st, eq_li, ne_li, at_0, at_1, at_2, at_3, at_4, at_5, in_li, notin_li, c_z, c_s, gx_v, gx_s, e_mIsX, e_sTry, tc_ok, tc_exc, cm_nil, cm_cons, ex_ok, dx_nil, dx_v, dx_o, dx_x, dx_n, at_exx, Int.cast_ofNat_Int, e_mLrg1, e_mLrg2, d_lrg]⟩), honm]
    simp (disch := omega) only [hon, bind_ok, bind_bad, bind_exc, at_ok, at_exc, ofO_some, oS_some, nox_okk, g_v, g_s, go_v, go_s, ga_v, ga_o, ga_s, s_z, s_s, fz_o, fz_v, fz_s, e_mGet, e_mC, e_m2, e_m1, e_mT, e_mB, e_mAndB, e_mOrB, e_mNotB, e_mAnd, e_mOr, e_mIf, e_mChain, e_mNil, e_mCons, e_mSeq, e_mCall, e_mNo, e_mPart, e_mCut, e_mIs, e_mIs2, e_mL, e_mDsp, e_mRep, e_mBind, e_mIxO, e_mBor, e_mBorB, e_mItems, e_mWk, e_mRev, e_mYes, e_mLc, e_gN, e_gE, e_gC, e_gTt, e_gTl, e_sNx, e_sThen, e_sDrop, e_sRet, e_sSet, e_sIf, e_sFor, e_sAsg, e_sPar, e_sSetO, e_sSetL, e_ownAt, e_freeze, e_sApp, e_sSetIx, e_sAugIx, e_sAug, e_sPop, e_sPopTo, e_fnM, e_bo_rt, e_bo_nx, e_bo_exc, e_startE, e_wipe0, e_wipe1, d_add, d_addib, d_addl, d_addt, d_sub, d_mul, d_div, d_mod, d_pow, d_cmp, d_neg, d_not, d_iadd, d_iop, d_toB, d_toI, d_trB, d_trI, d_trN, d_trL, d_trT, d_lenL, d_lenT, d_intI, d_intB, d_abs, d_gcd, d_max2, d_min2, d_sumI, d_anyB, d_allB, d_maxL, d_minL, d_listL, d_listT, d_tupL, d_tupT, d_idxL, d_idxT, d_lstL, d_lstT, d_revL, d_itL, d_itT, d_rng1, d_rng2, d_enum1, d_zip2, d_rev1L, d_rev1T, d_cutL, d_cutT, d_rep, d_mTup, d_mLst, d_setD, d_scN, d_scB, d_scI, d_scS, d_isN, d_isNN, d_nN, d_nB, d_nI, d_nS, d_nL, d_nT, if_true, if_false, ite_true, ite_false, reduceIte, List.length_cons, List.length_nil, Nat.zero_add, Nat.reduceAdd, Nat.reduceSub, Nat.reduceEqDiff, List.map_cons, List.map_nil, List.cons_append, List.nil_append, List.replicate, Option.map_some, Option.bind_some, Option.some.injEq, Bool.not_true, Bool.not_false, ne_eq, Bool.false_eq_true, Int.reduceEq, Int.reduceLT, Int.reduceLE, Int.reduceNeg, Int.reduceAdd, Int.reduceSub, Int.reduceMul, Int.reduceToNat, Int.toNat_natCast, Nat.reduceLT, Nat.reduceLeDiff, not_false_eq_true, not_true_eq_false, decide_true, decide_false, List.length_map, List.map_append, fmod_pos, fdiv_pos, and_true, true_and, and_self, Bool.and_true, Bool.or_false, Bool.and_false, Bool.or_true, Bool.true_and, Bool.false_and, ty_li_none, ty_li_bool, ty_li_int, ty_li_str, ty_li_list, ty_li_tuple, ty_tu_none, ty_tu_bool, ty_tu_int, ty_tu_str, ty_tu_list, ty_tu_tuple, ty_bo_none, ty_bo_bool, ty_bo_int, ty_bo_str, ty_bo_list, ty_bo_tuple, ty_in_none, ty_in_bool, ty_in_int, ty_in_str, ty_in_list, ty_in_tuple, ty_st_none, ty_st_bool, ty_st_int, ty_st_str, ty_st_list, ty_st_tuple, eq_int, ne_int, eq_bl, ne_bl, eq_st, ne_st, eq_li, ne_li, at_0, at_1, at_2, at_3, at_4, at_5, in_li, notin_li, c_z, c_s, gx_v, gx_s, e_mIsX, e_sTry, tc_ok, tc_exc, cm_nil, cm_cons, ex_ok, dx_nil, dx_v, dx_o, dx_x, dx_n, at_exx, Int.cast_ofNat_Int, e_mLrg1, e_mLrg2, d_lrg])]
  simp only [s_s, s_z]
  rw [st_no (by simp (disch := omega) only [tw, lko, bind_ok, bind_bad, bind_exc, at_ok, at_exc, ofO_some, oS_some, nox_okk, g_v, g_s, go_v, go_s, ga_v, ga_o, ga_s, s_z, s_s, fz_o, fz_v, fz_s, e_mGet, e_mC, e_m2, e_m1, e_mT, e_mB, e_mAndB, e_mOrB, e_mNotB, e_mAnd, e_mOr, e_mIf, e_mChain, e_mNil, e_mCons, e_mSeq, e_mCall, e_mNo, e_mPart, e_mCut, e_mIs, e_mIs2, e_mL, e_mDsp, e_mRep, e_mBind, e_mIxO, e_mBor, e_mBorB, e_mItems, e_mWk, e_mRev, e_mYes, e_mLc, e_gN, e_gE, e_gC, e_gTt, e_gTl, e_sNx, e_sThen, e_sDrop, e_sRet, e_sSet, e_sIf, e_sFor, e_sAsg, e_sPar, e_sSetO, e_sSetL, e_ownAt, e_freeze, e_sApp, e_sSetIx, e_sAugIx, e_sAug, e_sPop, e_sPopTo, e_fnM, e_bo_rt, e_bo_nx, e_bo_exc, e_startE, e_wipe0, e_wipe1, d_add, d_addib, d_addl, d_addt, d_sub, d_mul, d_div, d_mod, d_pow, d_cmp, d_neg, d_not, d_iadd, d_iop, d_toB, d_toI, d_trB, d_trI, d_trN, d_trL, d_trT, d_lenL, d_lenT, d_intI, d_intB, d_abs, d_gcd, d_max2, d_min2, d_sumI, d_anyB, d_allB, d_maxL, d_minL, d_listL, d_listT, d_tupL, d_tupT, d_idxL, d_idxT, d_lstL, d_lstT, d_revL, d_itL, d_itT, d_rng1, d_rng2, d_enum1, d_zip2, d_rev1L, d_rev1T, d_cutL, d_cutT, d_rep, d_mTup, d_mLst, d_setD, d_scN, d_scB, d_scI, d_scS, d_isN, d_isNN, d_nN, d_nB, d_nI, d_nS, d_nL, d_nT, if_true, if_false, ite_true, ite_false, reduceIte, List.length_cons, List.length_nil, Nat.zero_add, Nat.reduceAdd, Nat.reduceSub, Nat.reduceEqDiff, List.map_cons, List.map_nil, List.cons_append, List.nil_append, List.replicate, Option.map_some, Option.bind_some, Option.some.injEq, Bool.not_true, Bool.not_false, ne_eq, Bool.false_eq_true, Int.reduceEq, Int.reduceLT, Int.reduceLE, Int.reduceNeg, Int.reduceAdd, Int.reduceSub, Int.reduceMul, Int.reduceToNat, Int.toNat_natCast, Nat.reduceLT, Nat.reduceLeDiff, not_false_eq_true, not_true_eq_false, decide_true, decide_false, List.length_map, List.map_append, fmod_pos, fdiv_pos, and_true, true_and, and_self, Bool.and_true, Bool.or_false, Bool.and_false, Bool.or_true, Bool.true_and, Bool.false_and, ty_li_none, ty_li_bool, ty_li_int, ty_li_str, ty_li_list, ty_li_tuple, ty_tu_none, ty_tu_bool, ty_tu_int, ty_tu_str, ty_tu_list, ty_tu_tuple, ty_bo_none, ty_bo_bool, ty_bo_int, ty_bo_str, ty_bo_list, ty_bo_tuple, ty_in_none, ty_in_bool, ty_in_int, ty_in_str, ty_in_list, ty_in_tuple, ty_st_none, ty_st_bool, ty_st_int, ty_st_str, ty_st_list, ty_st_tuple, eq_int, ne_int, eq_bl, ne_bl, eq_st, ne_st, eq_li, ne_li, at_0, at_1, at_2, at_3, at_4, at_5, in_li, notin_li, c_z, c_s, gx_v, gx_s, e_mIsX, e_sTry, tc_ok, tc_exc, cm_nil, cm_cons, ex_ok, dx_nil, dx_v, dx_o, dx_x, dx_n, at_exx, Int.cast_ofNat_Int, e_mLrg1, e_mLrg2, d_lrg])]
  rw [st_set (d := pr (tp, qp)) (by simp (disch := omega) only [e1, bind_ok, bind_bad, bind_exc, at_ok, at_exc, ofO_some, oS_some, nox_okk, g_v, g_s, go_v, go_s, ga_v, ga_o, ga_s, s_z, s_s, fz_o, fz_v, fz_s, e_mGet, e_mC, e_m2, e_m1, e_mT, e_mB, e_mAndB, e_mOrB, e_mNotB, e_mAnd, e_mOr, e_mIf, e_mChain, e_mNil, e_mCons, e_mSeq, e_mCall, e_mNo, e_mPart, e_mCut, e_mIs, e_mIs2, e_mL, e_mDsp, e_mRep, e_mBind, e_mIxO, e_mBor, e_mBorB, e_mItems, e_mWk, e_mRev, e_mYes, e_mLc, e_gN, e_gE, e_gC, e_gTt, e_gTl, e_sNx, e_sThen, e_sDrop, e_sRet, e_sSet, e_sIf, e_sFor, e_sAsg, e_sPar, e_sSetO, e_sSetL, e_ownAt, e_freeze, e_sApp, e_sSetIx, e_sAugIx, e_sAug, e_sPop, e_sPopTo, e_fnM, e_bo_rt, e_bo_nx, e_bo_exc, e_startE, e_wipe0, e_wipe1, d_add, d_addib, d_addl, d_addt, d_sub, d_mul, d_div, d_mod, d_pow, d_cmp, d_neg, d_not, d_iadd, d_iop, d_toB, d_toI, d_trB, d_trI, d_trN, d_trL, d_trT, d_lenL, d_lenT, d_intI, d_intB, d_abs, d_gcd, d_max2, d_min2, d_sumI, d_anyB, d_allB, d_maxL, d_minL, d_listL, d_listT, d_tupL, d_tupT, d_idxL, d_idxT, d_lstL, d_lstT, d_revL, d_itL, d_itT, d_rng1, d_rng2, d_enum1, d_zip2, d_rev1L, d_rev1T, d_cutL, d_cutT, d_rep, d_mTup, d_mLst, d_setD, d_scN, d_scB, d_scI, d_scS, d_isN, d_isNN, d_nN, d_nB, d_nI, d_nS, d_nL, d_nT, if_true, if_false, ite_true, ite_false, reduceIte, List.length_cons, List.length_nil, Nat.zero_add, Nat.reduceAdd, Nat.reduceSub, Nat.reduceEqDiff, List.map_cons, List.map_nil, List.cons_append, List.nil_append, List.replicate, Option.map_some, Option.bind_some, Option.some.injEq, Bool.not_true, Bool.not_false, ne_eq, Bool.false_eq_true, Int.reduceEq, Int.reduceLT, Int.reduceLE, Int.reduceNeg, Int.reduceAdd, Int.reduceSub, Int.reduceMul, Int.reduceToNat, Int.toNat_natCast, Nat.reduceLT, Nat.reduceLeDiff, not_false_eq_true, not_true_eq_false, decide_true, decide_false, List.length_map, List.map_append, fmod_pos, fdiv_pos, and_true, true_and, and_self, Bool.and_true, Bool.or_false, Bool.and_false, Bool.or_true, Bool.true_and, Bool.false_and, ty_li_none, ty_li_bool, ty_li_int, ty_li_str, ty_li_list, ty_li_tuple, ty_tu_none, ty_tu_bool, ty_tu_int, ty_tu_str, ty_tu_list, ty_tu_tuple, ty_bo_none, ty_bo_bool, ty_bo_int, ty_bo_str, ty_bo_list, ty_bo_tuple, ty_in_none, ty_in_bool, ty_in_int, ty_in_str, ty_in_list, ty_in_tuple, ty_st_none, ty_st_bool, ty_st_int, ty_st_str, ty_st_list, ty_st_tuple, eq_int, ne_int, eq_bl, ne_bl, eq_st, ne_st, eq_li, ne_li, at_0, at_1, at_2, at_3, at_4, at_5, in_li, notin_li, c_z, c_s, gx_v, gx_s, e_mIsX, e_sTry, tc_ok, tc_exc, cm_nil, cm_cons, ex_ok, dx_nil, dx_v, dx_o, dx_x, dx_n, at_exx, Int.cast_ofNat_Int, e_mLrg1, e_mLrg2, d_lrg])]; simp only [s_s, s_z]
  have l2s : 2 ≤ sizeLine := by rw [line_eq]; omega
  simp (disch := omega) only [mm1, mm2, e2, l2s, lkp, bind_ok, bind_bad, bind_exc, at_ok, at_exc, ofO_some, oS_some, nox_okk, g_v, g_s, go_v, go_s, ga_v, ga_o, ga_s, s_z, s_s, fz_o, fz_v, fz_s, e_mGet, e_mC, e_m2, e_m1, e_mT, e_mB, e_mAndB, e_mOrB, e_mNotB, e_mAnd, e_mOr, e_mIf, e_mChain, e_mNil, e_mCons, e_mSeq, e_mCall, e_mNo, e_mPart, e_mCut, e_mIs, e_mIs2, e_mL, e_mDsp, e_mRep, e_mBind, e_mIxO, e_mBor, e_mBorB, e_mItems, e_mWk, e_mRev, e_mYes, e_mLc, e_gN, e_gE, e_gC, e_gTt, e_gTl, e_sNx, e_sThen, e_sDrop, e_sRet, e_sSet, e_sIf, e_sFor, e_sAsg, e_sPar, e_sSetO, e_sSetL, e_ownAt, e_freeze, e_sApp, e_sSetIx, e_sAugIx, e_sAug, e_sPop, e_sPopTo, e_fnM, e_bo_rt, e_bo_nx, e_bo_exc, e_startE, e_wipe0, e_wipe1, d_add, d_addib, d_addl, d_addt, d_sub, d_mul, d_div, d_mod, d_pow, d_cmp, d_neg, d_not, d_iadd, d_iop, d_toB, d_toI, d_trB, d_trI, d_trN, d_trL, d_trT, d_lenL, d_lenT, d_intI, d_intB, d_abs, d_gcd, d_max2, d_min2, d_sumI, d_anyB, d_allB, d_maxL, d_minL, d_listL, d_listT, d_tupL, d_tupT, d_idxL, d_idxT, d_lstL, d_lstT, d_revL, d_itL, d_itT, d_rng1, d_rng2, d_enum1, d_zip2, d_rev1L, d_rev1T, d_cutL, d_cutT, d_rep, d_mTup, d_mLst, d_setD, d_scN, d_scB, d_scI, d_scS, d_isN, d_isNN, d_nN, d_nB, d_nI, d_nS, d_nL, d_nT, if_true, if_false, ite_true, ite_false, reduceIte, List.length_cons, List.length_nil, Nat.zero_add, Nat.reduceAdd, Nat.reduceSub, Nat.reduceEqDiff, List.map_cons, List.map_nil, List.cons_append, List.nil_append, List.replicate, Option.map_some, Option.bind_some, Option.some.injEq, Bool.not_true, Bool.not_false, ne_eq, Bool.false_eq_true, Int.reduceEq, Int.reduceLT, Int.reduceLE, Int.reduceNeg, Int.reduceAdd, Int.reduceSub, Int.reduceMul, Int.reduceToNat, Int.toNat_natCast, Nat.reduceLT, Nat.reduceLeDiff, not_false_eq_true, not_true_eq_false, decide_true, decide_false, List.length_map, List.map_append, fmod_pos, fdiv_pos, and_true, true_and, and_self, Bool.and_true, Bool.or_false, Bool.and_false, Bool.or_true, Bool.true_and, Bool.false_and, ty_li_none, ty_li_bool, ty_li_int, ty_li_str, ty_li_list, ty_li_tuple, ty_tu_none, ty_tu_bool, ty_tu_int, ty_tu_str, ty_tu_list, ty_tu_tuple, ty_bo_none, ty_bo_bool, ty_bo_int, ty_bo_str, ty_bo_list, ty_bo_tuple, ty_in_none, ty_in_bool, ty_in_int, ty_in_str, ty_in_list, ty_in_tuple, ty_st_none, ty_st_bool, ty_st_int, ty_st_str, ty_st_list, ty_st_tuple, eq_int, ne_int, eq_bl, ne_bl, eq_st, ne_st, eq_li, ne_li, at_0, at_1, at_2, at_3, at_4, at_5, in_li, notin_li, c_z, c_s, gx_v, gx_s, e_mIsX, e_sTry, tc_ok, tc_exc, cm_nil, cm_cons, ex_ok, dx_nil, dx_v, dx_o, dx_x, dx_n, at_exx, Int.cast_ofNat_Int, e_mLrg1, e_mLrg2, d_lrg]
end Law
end
section
open PySem PySem.W PySem.Calls PyProof.Rows
set_option maxHeartbeats 0 in
theorem PySem.Challenge.cw_ropesbear_k65_whole_first_worn_pieces_holds : PySem.Challenge.rw_ropesbear_k65_whole_first_worn_pieces.Holds := by
  w_on; o_law
  refine HandSHeadRun.head_any (r := OpenLaw.row PySem.Challenge.rw_ropesbear_k65_whole_first_worn_pieces) (q := view (OpenLaw.row PySem.Challenge.rw_ropesbear_k65_whole_first_worn_pieces).prog [14]) (H := Law.hk) (ob := Law.ob) (M := 1300) (loose := Law.loose) (d := HandSHeadRun.topDef (OpenLaw.row PySem.Challenge.rw_ropesbear_k65_whole_first_worn_pieces).prog 14) (kwd := []) Law.ob_eq
    (by kernel_rfl) (fun s => by kernel_rfl) Law.run (by kernel_rfl) (by kernel_rfl) (by kernel_rfl) (by rfl) (by first | assumption | decide +kernel) (by decide +kernel) ⟨rfl, rfl, rfl, rfl, rfl, by decide +kernel⟩ ?hw ?hc
  case hw => w_witness2
  case hc =>
    refine PV.walk_world (l := PySem.Challenge.rw_ropesbear_k65_whole_first_worn_pieces) (n := 63) (k := 11) (x := "script") rfl (by decide) (by kernel_rfl) ⟨rfl, by decide, by decide⟩ ?_
    intro w mg fa h Y G hmg0
    obtain ⟨K, KX, c⟩ := Y
    have hmg : mg ("law" : PySem.Str) = some (.ref fa) := by
      have e : (HandSHeadRun.topDef (OpenLaw.row PySem.Challenge.rw_ropesbear_k65_whole_first_worn_pieces).prog 14).name = ("law" : PySem.Str) := by kernel_rfl
      rw [← e]
      exact hmg0
    obtain ⟨fd, hb, hF⟩ := Law.facts (P := (PySem.Challenge.rw_ropesbear_k65_whole_first_worn_pieces).prog) (w := w) KX G hmg c
    exact ⟨K, fd, PV.SpV K mg 1 Law.m_law, KX, hb, fun H a ns hl hS => PV.law_end (n := 63) (by decide) Law.law_true H a ns hl hS, hF⟩
end
